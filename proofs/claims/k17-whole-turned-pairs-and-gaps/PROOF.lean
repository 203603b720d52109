import PyProof.Rows.All
import Wide.All
import OpenK.AllK
import Wide.FinOn
import KE.KStateDown
import Lean
import HandS.ForMost
import HandS.Exc
import HandS.Defaults
import HandS.HeadWalk
import HandS.Head0
import HandS.Head1
import HandS.Head2
import HandS.Head3
import HandS.HeadEnd
import HandS.HeadHook1
import HandS.HeadHook2
import HandS.HeadHook3
import HandS.HeadHook4
import HandS.ExcSuper
import HandS.ExcInit
import HandS.TryOnly
import HandS.TryMany
import HandS.ExcField
import KE.KExcSuper
import HandS.EndTab
import PyProof.EqAt
import PyProof.EqKinds
import PyProof.TupleCall
import HandS.Lambda
import HandS.Evl
import HandS.IsInst
import HandS.Gcd
import HandS.Star
import HandS.CallLocal
import HandS.NoneIn
import HandS.Style
import HandS.TupAny
import HandS.Zip
import KE.GoesMore
import KE.GoesEnum
import PyProof.IsiH_set
import HandS.OwnEq
import PyProof.InstNe
import HandS.Nested
import KE.KDictCopyH
import HandS.DictTup
import HandS.Conv
import KE.DataMinMax
import KE.KDictItemsList
import KE.KDictWalk
import PyProof.InstEq
import PyProof.NeKinds
import HandS.NestedK
import PySem.Challenge.RW_anyload_k17_whole_turned_pairs_and_gaps
set_option Elab.async false
set_option linter.all false
set_option maxRecDepth 100000
set_option maxHeartbeats 0
namespace K17
open PySem PySem.Spec PyProof.Rows L2
def topS (i : Nat) : Stmt := PySem.Challenge.pw_anyload_k17_whole_turned_pairs_and_gaps.main.body.getD i (.Pass ⟨0, 0, 0, 0⟩)
/-- a def of the text: where it stands, its statement -/
def dOf (at_ : Str × Option Str) (name qual : Str) (st : Stmt) : He.DefD := ⟨at_, name, qual, defArgs st, defBody st, defScope st, [], []⟩
def fnA : List He.DefD := [dOf ("is_list", none) "is_list" "is_list" (topS 11),
  dOf ("is_whole", none) "is_whole" "is_whole" (topS 12),
  dOf ("is_number", none) "is_number" "is_number" (topS 13),
  dOf ("first_odd", none) "first_odd" "first_odd" (topS 14),
  dOf ("check_number", none) "check_number" "check_number" (topS 15),
  dOf ("multiple_of", none) "multiple_of" "multiple_of" (topS 16),
  dOf ("lowest", none) "lowest" "lowest" (topS 17),
  dOf ("shortest_cycle", none) "shortest_cycle" "shortest_cycle" (topS 19),
  dOf ("least_form", none) "least_form" "least_form" (topS 20),
  dOf ("row_by", none) "row_by" "row_by" (topS 22),
  dOf ("check_row", none) "check_row" "check_row" (topS 24),
  dOf ("check_rows", none) "check_rows" "check_rows" (topS 25),
  dOf ("check_integer", none) "check_integer" "check_integer" (topS 26),
  dOf ("round_of", none) "round_of" "round_of" (topS 27),
  dOf ("gain_of", none) "gain_of" "gain_of" (topS 28),
  dOf ("behind_heads", none) "behind_heads" "behind_heads" (topS 29),
  dOf ("least_of_two", none) "least_of_two" "least_of_two" (topS 30),
  dOf ("least_among", none) "least_among" "least_among" (topS 31),
  dOf ("least_of", none) "least_of" "least_of" (topS 32),
  dOf ("turned_about", none) "turned_about" "turned_about" (topS 33),
  dOf ("greatest_of", none) "greatest_of" "greatest_of" (topS 34),
  dOf ("raised", none) "raised" "raised" (topS 35),
  dOf ("lifted", none) "lifted" "lifted" (topS 36),
  dOf ("times", none) "times" "times" (topS 37),
  dOf ("later", none) "later" "later" (topS 38),
  dOf ("sooner_by", none) "sooner_by" "sooner_by" (topS 39),
  dOf ("sooner", none) "sooner" "sooner" (topS 40),
  dOf ("place_above", none) "place_above" "place_above" (topS 41),
  dOf ("first_above", none) "first_above" "first_above" (topS 42),
  dOf ("first_fall", none) "first_fall" "first_fall" (topS 43),
  dOf ("check_two", none) "check_two" "check_two" (topS 45),
  dOf ("is_faster", none) "is_faster" "is_faster" (topS 46),
  dOf ("least_sum", none) "least_sum" "least_sum" (topS 47),
  dOf ("split_by", none) "split_by" "split_by" (topS 48),
  dOf ("split_least", none) "split_least" "split_least" (topS 49),
  dOf ("split_greatest", none) "split_greatest" "split_greatest" (topS 50),
  dOf ("leads", none) "leads" "leads" (topS 51),
  dOf ("greatest_lead", none) "greatest_lead" "greatest_lead" (topS 52),
  dOf ("taken_back", none) "taken_back" "taken_back" (topS 53),
  dOf ("take_back", none) "take_back" "take_back" (topS 54)]
def fnB : List He.DefD := [dOf ("is_rising", none) "is_rising" "is_rising" (topS 56),
  dOf ("is_counting", none) "is_counting" "is_counting" (topS 57),
  dOf ("when_of", none) "when_of" "when_of" (topS 58),
  dOf ("when", none) "when" "when" (topS 59),
  dOf ("last", none) "last" "last" (topS 60),
  dOf ("gap_up", none) "gap_up" "gap_up" (topS 61),
  dOf ("first_with", none) "first_with" "first_with" (topS 62),
  dOf ("gap_across", none) "gap_across" "gap_across" (topS 63),
  dOf ("mean_of", none) "mean_of" "mean_of" (topS 65),
  dOf ("sums_to", none) "sums_to" "sums_to" (topS 66),
  dOf ("cheapest_by_rests", none) "cheapest_by_rests" "cheapest_by_rests" (topS 67),
  dOf ("settled_at_mean", none) "settled_at_mean" "settled_at_mean" (topS 68),
  dOf ("settled_above", none) "settled_above" "settled_above" (topS 69),
  dOf ("closure_of", none) "closure_of" "closure_of" (topS 70),
  dOf ("closed", none) "closed" "closed" (topS 71),
  dOf ("held", none) "held" "held" (topS 72),
  dOf ("_law_source", none) "_law_source" "_law_source" (topS 74),
  dOf ("_law_draw", none) "_law_draw" "_law_draw" (topS 75),
  dOf ("_law_pick", none) "_law_pick" "_law_pick" (topS 76),
  dOf ("_law_same", none) "_law_same" "_law_same" (topS 77),
  dOf ("_law_loose", none) "_law_loose" "_law_loose" (topS 78),
  dOf ("_law_at", none) "_law_at" "_law_at" (topS 79),
  dOf ("_law_upto", none) "_law_upto" "_law_upto" (topS 80),
  dOf ("_law_divisor", none) "_law_divisor" "_law_divisor" (topS 81),
  dOf ("_law_multiple", none) "_law_multiple" "_law_multiple" (topS 82),
  dOf ("_law_drawn", none) "_law_drawn" "_law_drawn" (topS 83),
  dOf ("_law_rising", none) "_law_rising" "_law_rising" (topS 84),
  dOf ("_law_passed", none) "_law_passed" "_law_passed" (topS 85),
  dOf ("_law_counts", none) "_law_counts" "_law_counts" (topS 86),
  dOf ("_law_odd_row", none) "_law_odd_row" "_law_odd_row" (topS 87),
  dOf ("_law_refused", none) "_law_refused" "_law_refused" (topS 88),
  dOf ("_law_counting", none) "_law_counting" "_law_counting" (topS 89),
  dOf ("_law_pairs_turned_right", none) "_law_pairs_turned_right" "_law_pairs_turned_right" (topS 90),
  dOf ("_law_gap_up", none) "_law_gap_up" "_law_gap_up" (topS 91),
  dOf ("_law_is_flat", none) "_law_is_flat" "_law_is_flat" (topS 92),
  dOf ("_law_gap_across", none) "_law_gap_across" "_law_gap_across" (topS 93),
  dOf ("_law_flat_pair", none) "_law_flat_pair" "_law_flat_pair" (topS 94),
  dOf ("_law_gaps_right", none) "_law_gaps_right" "_law_gaps_right" (topS 95),
  dOf ("law", none) "law" "law" (topS 96)]
def fnC : List He.DefD := [dOf ("Row", some "__init__") "__init__" "Row.__init__" (inClass (topS 21) 0),
  dOf ("Row", some "value") "value" "Row.value" (inClass (topS 21) 1),
  dOf ("Row", some "at") "at" "Row.at" (inClass (topS 21) 2),
  dOf ("Row", some "upto") "upto" "Row.upto" (inClass (topS 21) 3),
  dOf ("Row", some "head") "head" "Row.head" (inClass (topS 21) 4),
  dOf ("Row", some "cycle") "cycle" "Row.cycle" (inClass (topS 21) 5),
  dOf ("Row", some "gain") "gain" "Row.gain" (inClass (topS 21) 6),
  dOf ("Row", some "rate") "rate" "Row.rate" (inClass (topS 21) 7),
  dOf ("Row", some "__eq__") "__eq__" "Row.__eq__" (inClass (topS 21) 8)]
def fn : List He.DefD := fnA ++ fnB ++ fnC
def faA : List He.Fa := [.glo "is_list", .glo "is_whole", .glo "is_number", .glo "first_odd", .glo "check_number", .glo "multiple_of", .glo "lowest", .glo "shortest_cycle", .glo "least_form", .glo "row_by", .glo "check_row", .glo "check_rows", .glo "check_integer", .glo "round_of", .glo "gain_of", .glo "behind_heads", .glo "least_of_two", .glo "least_among", .glo "least_of", .glo "turned_about", .glo "greatest_of", .glo "raised", .glo "lifted", .glo "times", .glo "later", .glo "sooner_by", .glo "sooner", .glo "place_above", .glo "first_above", .glo "first_fall", .glo "check_two", .glo "is_faster", .glo "least_sum", .glo "split_by", .glo "split_least", .glo "split_greatest", .glo "leads", .glo "greatest_lead", .glo "taken_back", .glo "take_back"]
def faB : List He.Fa := [.glo "is_rising", .glo "is_counting", .glo "when_of", .glo "when", .glo "last", .glo "gap_up", .glo "first_with", .glo "gap_across", .glo "mean_of", .glo "sums_to", .glo "cheapest_by_rests", .glo "settled_at_mean", .glo "settled_above", .glo "closure_of", .glo "closed", .glo "held", .glo "_law_source", .glo "_law_draw", .glo "_law_pick", .glo "_law_same", .glo "_law_loose", .glo "_law_at", .glo "_law_upto", .glo "_law_divisor", .glo "_law_multiple", .glo "_law_drawn", .glo "_law_rising", .glo "_law_passed", .glo "_law_counts", .glo "_law_odd_row", .glo "_law_refused", .glo "_law_counting", .glo "_law_pairs_turned_right", .glo "_law_gap_up", .glo "_law_is_flat", .glo "_law_gap_across", .glo "_law_flat_pair", .glo "_law_gaps_right", .glo "law"]
def faC : List He.Fa := [.glo "LoadError", .glo "BadRow", .glo "Row", .free "len", .free "range", .free "max", .free "min", .free "sum", .free "isinstance", .free "list", .free "tuple", .free "int", .free "bool", .free "sorted", .free "enumerate", .free "zip", .free "all", .free "abs", .free "dict", .free "super", .free "ValueError"]
def faD : List He.Fa := [.cls "Row", .noat "Row" "early", .noat "Row" "round", .noat "Row" "more", .mkr "Row", .meth "Row" "value", .meth "Row" "at", .meth "Row" "upto", .meth "Row" "head", .meth "Row" "cycle", .meth "Row" "gain", .meth "Row" "rate", .meth "Row" "__eq__", .keep "Row", .keep "BadRow"]
def fa : List He.Fa := faA ++ faB ++ faC ++ faD
def tf : List He.Defn := [("least_of_two", none), ("_law_gaps_right", none), ("law", none)]
def gN0 : List Str := ["is_list", "is_whole", "is_number", "first_odd", "check_number", "multiple_of", "lowest", "shortest_cycle", "least_form", "row_by", "check_row", "check_rows", "check_integer", "round_of", "gain_of", "behind_heads", "least_of_two", "least_among", "least_of", "turned_about"]
def gN1 : List Str := ["greatest_of", "raised", "lifted", "times", "later", "sooner_by", "sooner", "place_above", "first_above", "first_fall", "check_two", "is_faster", "least_sum", "split_by", "split_least", "split_greatest", "leads", "greatest_lead", "taken_back", "take_back"]
def gN2 : List Str := ["is_rising", "is_counting", "when_of", "when", "last", "gap_up", "first_with", "gap_across", "mean_of", "sums_to", "cheapest_by_rests", "settled_at_mean", "settled_above", "closure_of", "closed", "held", "_law_source", "_law_draw", "_law_pick", "_law_same"]
def gN3 : List Str := ["_law_loose", "_law_at", "_law_upto", "_law_divisor", "_law_multiple", "_law_drawn", "_law_rising", "_law_passed", "_law_counts", "_law_odd_row", "_law_refused", "_law_counting", "_law_pairs_turned_right", "_law_gap_up", "_law_is_flat", "_law_gap_across", "_law_flat_pair", "_law_gaps_right", "law"]
def gN : List Str := gN0 ++ gN1 ++ gN2 ++ gN3
def cN : List (Str × List Str) := [("LoadError", []), ("BadRow", ["__init__"]), ("Row", ["__init__", "value", "at", "upto", "head", "cycle", "gain", "rate", "__eq__"])]
end K17
set_option Elab.async false
set_option linter.all false
set_option maxRecDepth 100000
set_option maxHeartbeats 0
namespace K17
open PySem PySem.Spec PyProof.Rows L2
/-! ### what is told of BadRow and its __init__ -/
end K17
namespace PySem
namespace BadX
open PySem.W PySem.Calls PyProof.Rows PySem.HandSPX
abbrev hSt : Stmt := L2.inClass (K17.topS 8) 0
abbrev hA : Arguments := L2.defArgs hSt
abbrev hB : List Stmt := L2.defBody hSt
abbrev hS : Scope := L2.defScope hSt
def clsB (K : Frag) (C : Addr) : Bool := match K.lookup C with
  | some ⟨.type "type", _, .cls cd, sl⟩ => (match cd.mro, sl.toList with
    | .ref C' :: bm, [_, _, _, _, some (.builtin n), _] => C' == C && (n == "ValueError.__new__" && (!cd.hasDel && (cd.hasDict && (refsVE bm && He.eqO (alongIn K "__init__" bm) (some (some (.builtin "ValueError.__init__")))))))
    | _, _ => false)
  | _ => false
theorem clsB_ok {K : Frag} {C : Addr} (q : clsB K C = true) : ∃ nm q N bs bm sn sub ab col dd k0 k1 k2 k3 k5, K.lookup C = some (excClassObj nm q C N bs bm true sn sub ab col dd k0 k1 k2 k3 k5 "ValueError.__new__") ∧ refsVE bm = true ∧ alongIn K "__init__" bm = some (some (.builtin "ValueError.__init__")) := by
  unfold clsB at q
  split at q
  · rename_i dd cd sl ho
    split at q
    · rename_i C' bm k0 k1 k2 k3 n k5 hm hs
      obtain ⟨q1, q⟩ := He.ba q
      obtain ⟨q2, q⟩ := He.ba q
      obtain ⟨q3, q⟩ := He.ba q
      obtain ⟨q4, q⟩ := He.ba q
      obtain ⟨q5, q6⟩ := He.ba q
      obtain rfl := beq_iff_eq.mp q1
      obtain rfl := beq_iff_eq.mp q2
      rw [Bool.not_eq_true'] at q3
      obtain ⟨nm, bs, mro, ns, qn, hd, sn, sub, ab, col, del⟩ := cd
      dsimp only at hm q3 q4
      subst hm q3 q4
      have hsl : sl = #[k0, k1, k2, k3, some (.builtin "ValueError.__new__"), k5] := by
        obtain ⟨l⟩ := sl
        simp only at hs
        rw [hs]
      subst hsl
      exact ⟨nm, qn, ns, bs, bm, sn, sub, ab, col, dd, k0, k1, k2, k3, k5, ho, q5, He.eqO_ok q6⟩
    · cases q
  · cases q
abbrev FnC : Type := Option (Str × Str × Arguments × FuncBody × Scope × Addr × List Str × Addr)
def fnC (K : Frag) (f : Addr) : FnC := match K.lookup f with
  | some ⟨_, _, .func fd, _⟩ => some (fd.name, fd.qualname, fd.params, fd.body, fd.scope, fd.globals, fd.closure.map (·.1), fd.builtins)
  | _ => none
def fcVal : FnC := some ("__init__", "BadRow.__init__", hA, .stmts hB, hS, mainGlobals, ["__class__"], builtinsNs)
def fileB (P : Program) (K : Frag) (c : Addr) : Bool := match K.lookup c with
  | some ⟨_, _, .fields vs, _⟩ => (match (vs[2]? : Option Value) with
    | some (Value.str file _) => (P.main.file : Str) == file
    | _ => false)
  | _ => false
def cellB (K : Frag) (c C : Addr) : Bool := match K.lookup c with
  | some ⟨_, _, .cell (some (.ref D)), _⟩ => D == C
  | _ => false
def initB (P : Program) (K : Frag) (f C : Addr) : Bool := match K.lookup f with
  | some ⟨_, _, .func fd, _⟩ => (match fd.defaults, fd.kwdefaults, fd.code, fd.closure with
    | .none, .none, .ref cda, [(_, cc)] => codeIn K (.ref cda) "BadRow.__init__" && (fileB P K cda && cellB K cc C)
    | _, _, _, _ => false)
  | _ => false
theorem fileB_ok {P : Program} {K : Frag} {cda : Addr} (q : fileB P K cda = true) : ∃ (ccl : Value) (cdd : Option Addr) (vs : Array Value) (ccs : Array (Option Value)) (file : Str) (tf : Tok), K.lookup cda = some ⟨ccl, cdd, .fields vs, ccs⟩ ∧ vs[2]? = some (.str file tf) ∧ ((P.main.file : Str) == file) = true := by
  unfold fileB at q
  split at q
  · rename_i ccl cdd vs ccs ho
    split at q
    · rename_i file tf hv
      exact ⟨ccl, cdd, vs, ccs, file, tf, ho, hv, q⟩
    · cases q
  · cases q
theorem cellB_ok {K : Frag} {cc C : Addr} (q : cellB K cc C = true) : ∃ (cl : Value) (cld : Option Addr) (csl : Array (Option Value)), K.lookup cc = some ⟨cl, cld, .cell (some (.ref C)), csl⟩ := by
  unfold cellB at q
  split at q
  · rename_i cl cld D csl ho
    obtain rfl := beq_iff_eq.mp q
    exact ⟨cl, cld, csl, ho⟩
  · cases q
theorem initB_ok {P : Program} {K : Frag} {f C : Addr} (e : fnC K f = fcVal) (q : initB P K f C = true) : ∃ (oc : Value) (od : Option Addr) (doc pm : Value) (an : Option Addr) (cda cc : Addr) (ct : Value) (osl : Array (Option Value)),
    K.lookup f = some ⟨oc, od, .func (ksFn "__init__" "BadRow.__init__" hA hB hS .none .none doc pm an (.ref cda) ct cc), osl⟩ ∧ codeIn K (.ref cda) "BadRow.__init__" = true ∧
      (∃ (ccl : Value) (cdd : Option Addr) (vs : Array Value) (ccs : Array (Option Value)) (file : Str) (tf : Tok), K.lookup cda = some ⟨ccl, cdd, .fields vs, ccs⟩ ∧ vs[2]? = some (.str file tf) ∧ ((P.main.file : Str) == file) = true) ∧
      (∃ (cl : Value) (cld : Option Addr) (csl : Array (Option Value)), K.lookup cc = some ⟨cl, cld, .cell (some (.ref C)), csl⟩) := by
  unfold initB at q
  unfold fnC at e
  cases ho : K.lookup f with
  | none => rw [ho] at q; cases q
  | some o =>
    obtain ⟨oc, od, dt, osl⟩ := o
    rw [ho] at q e
    cases dt with
    | func fd =>
      obtain ⟨n1, n2, n3, n4, n5, n6, n7, n8, n9, n10, n11, n12, n13, n14, n15⟩ := fd
      have e2 : (some (n1, n2, n3, n4, n5, n6, n7.map (·.1), n15) : FnC) = fcVal := e
      unfold fcVal at e2
      simp only [Option.some.injEq, Prod.mk.injEq] at e2
      obtain ⟨h1, h2, h3, h4, h5, h6, h7, h9⟩ := e2
      dsimp only at q
      split at q
      · rename_i cda y cc
        simp only [List.map_cons, List.map_nil, List.cons.injEq, and_true] at h7
        subst h1 h2 h3 h4 h5 h6 h7 h9
        obtain ⟨q1, q⟩ := He.ba q
        obtain ⟨q2, q3⟩ := He.ba q
        exact ⟨oc, od, n10, n11, n12, cda, cc, n14, osl, rfl, q1, fileB_ok q2, cellB_ok q3⟩
      · cases q
    | _ => cases q
end BadX
end PySem
namespace K17
open PySem PySem.Spec PyProof.Rows L2
def tyH : List String := ["int", "NoneType", "bool", "str", "list", "tuple", "dict", "function"]
abbrev Pg : Program := PySem.Challenge.pw_anyload_k17_whole_turned_pairs_and_gaps
abbrev initC (K : PySem.W.Frag) : Addr := He.ma K (He.ga K "BadRow") "__init__"
def drB (K : PySem.W.Frag) : Bool := match K.lookup (He.ga K "_law_draw") with
  | some ⟨.type "function", _, _, _⟩ => true
  | _ => false
/-- further facts of K, one Bool -/
def exRow (K : PySem.W.Frag) : Bool :=
  He.eqO (PySem.W.nsIn K mainGlobals "gcd") (some (some (.builtin "math.gcd"))) &&
  ((tyH.all fun t => decide (PySem.W.kitOne K (.type t) (.ref (He.ga K "Row")) = some false)) &&
  ((tyH.all fun t => decide (PySem.W.kitOne K (.ref (He.ga K "Row")) (.type t) = some false)) &&
  (decide (PySem.W.kitOne K (.ref (He.ga K "Row")) (.ref (He.ga K "Row")) = some true) &&
  (He.eqO (PySem.W.findIn K (.ref (He.ga K "Row")) "__class__") (some (some (.builtin "object.__class__"))) &&
  (He.eqO (PySem.W.specialIn K (.builtin "object.__class__") "__get__") (some (some (.builtin "getset_descriptor.__get__"))) &&
  (decide (PySem.W.takesIn K (.builtin "object.__class__") = some true) &&
  (decide (PySem.W.mroIn K (He.ga K "Row") (.type "object") = some true) &&
  (decide ((He.cT K ("least_of_two", none)).2 ≠ (He.cT K ("_law_gaps_right", none)).2) &&
  (decide ((He.cT K ("least_of_two", none)).2 ≠ (He.cT K ("law", none)).2) &&
  (decide ((He.cT K ("_law_gaps_right", none)).2 ≠ (He.cT K ("law", none)).2) &&
  (He.eqO (PySem.W.findIn K (.ref (He.ga K "Row")) "__ne__") (some (some (.builtin "object.__ne__"))) && drB K)))))))))))
def exBad (K : PySem.W.Frag) : Bool :=
  PySem.BadX.clsB K (He.ga K "BadRow") &&
  (He.eqO (PySem.W.findIn K (.ref (He.ga K "BadRow")) "__setattr__") (some (some (.builtin "object.__setattr__"))) &&
  (He.eqO (PySem.W.findIn K (.ref (He.ga K "BadRow")) "__getattribute__") (some (some (.builtin "BaseException.__getattribute__"))) &&
  (He.eqO (PySem.W.findIn K (.ref (He.ga K "BadRow")) "__getattr__") (some none) &&
  (He.eqO (PySem.W.findIn K (.ref (He.ga K "BadRow")) "thing") (some none) &&
  (He.eqO (PySem.W.findIn K (.ref (He.ga K "BadRow")) "__init__") (some (some (.ref (initC K)))) &&
  (decide (PySem.W.typeIn K (.ref (initC K)) = some (.type "function")) &&
  (PySem.W.keepIn K (.ref (He.ga K "BadRow")) &&
  (decide (PySem.W.subIn K (.ref (He.ga K "BadRow")) (.type "BaseException") = some true) &&
  (decide (PySem.W.subIn K (.ref (He.ga K "BadRow")) (.type "ValueError") = some true) &&
  (decide (PySem.W.mroIn K (He.ga K "BadRow") (.ref (He.ga K "BadRow")) = some true) &&
  (decide (PySem.W.typeIn K (.ref (He.ga K "BadRow")) = some (.type "type")) &&
  (PySem.W.hasDictIn K (He.ga K "BadRow") &&
  (decide (PySem.W.exmOne K (.ref (He.ga K "BadRow")) (.ref (He.ga K "BadRow")) = some true) &&
  (He.eqO (PySem.W.nsIn K cStatics "thirdparty.any") (some none) && PySem.BadX.initB Pg K (initC K) (He.ga K "BadRow")))))))))))))))
def ex (K : PySem.W.Frag) : Bool := exRow K && exBad K
/-! ### the part of the heap that is told: the names' objects, their code; the classes, their namespaces, methods -/
def gaG (g : Addr → Option Obj) (N : Addr) (x : Str) : Addr := match PySem.W.nsIn (He.frG g [N]) N x with
  | some (some (.ref a)) => a
  | _ => 0
def codeG (g : Addr → Option Obj) (f : Addr) : Addr := match g f with
  | some ⟨_, _, .func fd, _⟩ => (match fd.code with
    | .ref c => c
    | _ => 0)
  | _ => 0
def nsG (g : Addr → Option Obj) (C : Addr) : Addr := match g C with
  | some ⟨_, _, .cls cd, _⟩ => cd.ns
  | _ => 0
def fnsG {α : Type} (g : Addr → Option Obj) (N : Addr) : List Str → (List Addr → α) → List Addr → α
  | [], k, acc => k acc
  | x :: xs, k, acc => HandSHeadRun.frNat (gaG g N x) fun a => HandSHeadRun.frNat (codeG g a) fun c => fnsG g N xs k (a :: c :: acc)
theorem fnsG_ex {α : Type} (g : Addr → Option Obj) (N : Addr) : ∀ (xs : List Str) (acc : List Addr), ∃ as, ∀ k : List Addr → α, fnsG g N xs k acc = k as
  | [], acc => ⟨acc, fun _ => rfl⟩
  | x :: xs, acc => by
    obtain ⟨as, h⟩ := fnsG_ex (α := α) g N xs (gaG g N x :: codeG g (gaG g N x) :: acc)
    refine ⟨as, fun k => ?_⟩
    show HandSHeadRun.frNat (gaG g N x) (fun a => HandSHeadRun.frNat (codeG g a) fun c => fnsG g N xs k (a :: c :: acc)) = _
    rw [HandSHeadRun.frNat_eq, HandSHeadRun.frNat_eq, h]
def clsG {α : Type} (g : Addr → Option Obj) : List (Str × List Str) → (List Addr → α) → List Addr → α
  | [], k, acc => k acc
  | (c, ms) :: cs, k, acc => HandSHeadRun.frNat (gaG g mainGlobals c) fun C => HandSHeadRun.frNat (nsG g C) fun N => fnsG g N ms (fun acc => clsG g cs k acc) (C :: N :: acc)
theorem clsG_ex {α : Type} (g : Addr → Option Obj) : ∀ (cs : List (Str × List Str)) (acc : List Addr), ∃ as, ∀ k : List Addr → α, clsG g cs k acc = k as
  | [], acc => ⟨acc, fun _ => rfl⟩
  | (c, ms) :: cs, acc => by
    obtain ⟨as, h⟩ := fnsG_ex (α := α) g (nsG g (gaG g mainGlobals c)) ms (gaG g mainGlobals c :: nsG g (gaG g mainGlobals c) :: acc)
    obtain ⟨bs, h2⟩ := clsG_ex (α := α) g cs as
    refine ⟨bs, fun k => ?_⟩
    show HandSHeadRun.frNat (gaG g mainGlobals c) (fun C => HandSHeadRun.frNat (nsG g C) fun N => fnsG g N ms (fun acc => clsG g cs k acc) (C :: N :: acc)) = _
    rw [HandSHeadRun.frNat_eq, HandSHeadRun.frNat_eq, h, h2]
def cellG (g : Addr → Option Obj) (f : Addr) : Addr := match g f with
  | some ⟨_, _, .func fd, _⟩ => (match fd.closure with
    | [(_, c)] => c
    | _ => 0)
  | _ => 0
def asK {α : Type} (g : Addr → Option Obj) (k : List Addr → α) : α := HandSHeadRun.frNat (cellG g (gaG g (nsG g (gaG g mainGlobals "BadRow")) "__init__")) fun cc => fnsG g mainGlobals gN (fun acc => clsG g cN (fun acc => k (mainGlobals :: cStatics :: cc :: acc)) acc) []
theorem asK_ex {α : Type} (g : Addr → Option Obj) : ∃ as, ∀ k : List Addr → α, asK g k = k as := by
  obtain ⟨as, h⟩ := fnsG_ex (α := α) g mainGlobals gN []
  obtain ⟨bs, h2⟩ := clsG_ex (α := α) g cN as
  exact ⟨mainGlobals :: cStatics :: cellG g (gaG g (nsG g (gaG g mainGlobals "BadRow")) "__init__") :: bs, fun k => by unfold asK; rw [HandSHeadRun.frNat_eq, h, h2]⟩
def tabsK (g : Addr → Option Obj) (tf : List He.Defn) (K : PySem.W.Frag) : Bool := tf.all fun p => PySem.W.codeHdIn K (He.cT K p).1 (He.cT K p).2 && ((match g (He.cT K p).2 with
  | some o => He.emptyTab o
  | none => false) && (K.lookup (He.cT K p).2).isNone)
abbrev AlK : Type := He.AlX × PySem.BadX.FnC
def obsE (g : Addr → Option Obj) (as : List Addr) : AlK := ((He.obsT fa fn [] (He.frG g as), ex (He.frG g as) && tabsK g tf (He.frG g as)), PySem.BadX.fnC (He.frG g as) (initC (He.frG g as)))
def obsK (g : Addr → Option Obj) : AlK := asK g fun as => obsE g as
def valK (w : World) : AlK := (He.valX fn [] w, PySem.BadX.fcVal)
def Says (w : World) (h : Heap) (K : PySem.W.Frag) : Prop := He.SaysX fa fn [] tf ex w h K ∧ PySem.BadX.fnC K (initC K) = PySem.BadX.fcVal
theorem saysK_of {w : World} {h : Heap} (e : obsK h.get? = valK w) : ∃ K : PySem.W.Frag, K.In h ∧ Says w h K := by
  obtain ⟨as, ha⟩ := asK_ex (α := AlK) h.get?
  have e0 : obsE h.get? as = valK w := by
    rw [← e]; exact (ha (fun as => obsE h.get? as)).symm
  refine ⟨He.frG h.get? as, He.frG_in, ?_, congrArg (fun z : AlK => z.2) e0⟩
  have e1 : He.obsT fa fn [] (He.frG h.get? as) = He.valT fn [] w := congrArg (fun z : AlK => z.1.1) e0
  have e2 : (ex (He.frG h.get? as) && tabsK h.get? tf (He.frG h.get? as)) = true := congrArg (fun z : AlK => z.1.2) e0
  obtain ⟨h1, h2⟩ := He.ba e2
  have key : ∀ p ∈ tf, PySem.W.codeHdIn (He.frG h.get? as) (He.cT (He.frG h.get? as) p).1 (He.cT (He.frG h.get? as) p).2 = true ∧ (∃ o, h.get? (He.cT (He.frG h.get? as) p).2 = some o ∧ He.emptyTab o = true) ∧ (He.frG h.get? as).lookup (He.cT (He.frG h.get? as) p).2 = none := fun p hp => by
    obtain ⟨h3, h4⟩ := He.ba (List.all_eq_true.mp h2 p hp)
    obtain ⟨h5, h6⟩ := He.ba h4
    refine ⟨h3, ?_, Option.isNone_iff_eq_none.mp h6⟩
    cases q : h.get? (He.cT (He.frG h.get? as) p).2 with
    | none =>
      rw [q] at h5
      cases h5
    | some o =>
      rw [q] at h5
      exact ⟨o, rfl, h5⟩
  exact ⟨e1, h1, fun p hp => (key p hp).1, fun p hp => (key p hp).2.2, fun p hp => by
    obtain ⟨_, ⟨o, q, z⟩, _⟩ := key p hp
    rw [q, He.emptyTab_eq z]⟩
def hookK : PySem.W.Hook where
  α := AlK
  obs := fun s => obsK s.heap.get?
  val := valK
  says := fun w h => ∃ K : PySem.W.Frag, K.In h ∧ Says w h K
  of := fun _ _ e => saysK_of e
  keeps := fun _ _ _ ⟨K, hK, c, d⟩ k => ⟨K, PySem.W.Frag.In.keeps hK k, ⟨c.t, c.more, c.hd, c.out, fun p hp => k _ _ (c.empty p hp)⟩, d⟩
abbrev R : PySem.W.OpenRow := PySem.W.OpenLaw.row PySem.Challenge.rw_anyload_k17_whole_turned_pairs_and_gaps
def ob (s : PySem.W.SharedT) : AlK := obsK (HandSHeadRun.getT s)
theorem ob_eq (s : PySem.W.SharedT) : ob s = hookK.obs s.abs := by
  have e : HandSHeadRun.getT s = s.abs.heap.get? := funext (HandSHeadRun.getT_eq s)
  show obsK (HandSHeadRun.getT s) = obsK s.abs.heap.get?
  rw [e]
def names0 : List PySem.Str := ["LoadError", "BadHead", "BadCycle", "BadGain", "BadNumber", "BadRows", "BadRow", "BadInteger", "Row", "is_list", "is_whole", "is_number", "first_odd", "check_number", "multiple_of", "lowest", "shortest_cycle", "least_form", "row_by", "check_row"]
def names1 : List PySem.Str := ["check_rows", "check_integer", "round_of", "gain_of", "behind_heads", "least_of_two", "least_among", "least_of", "turned_about", "greatest_of", "raised", "lifted", "times", "later", "sooner_by", "sooner", "place_above", "first_above", "first_fall", "check_two"]
def names2 : List PySem.Str := ["is_faster", "least_sum", "split_by", "split_least", "split_greatest", "leads", "greatest_lead", "taken_back", "take_back", "is_rising", "is_counting", "when_of", "when", "last", "gap_up", "first_with", "gap_across", "mean_of", "sums_to", "cheapest_by_rests"]
def names3 : List PySem.Str := ["settled_at_mean", "settled_above", "closure_of", "closed", "held", "_law_source", "_law_draw", "_law_pick", "_law_same", "_law_loose", "_law_at", "_law_upto", "_law_divisor", "_law_multiple", "_law_drawn", "_law_rising", "_law_passed", "_law_counts", "_law_odd_row", "_law_refused"]
def names4 : List PySem.Str := ["_law_counting", "_law_pairs_turned_right", "_law_gap_up", "_law_is_flat", "_law_gap_across", "_law_flat_pair", "_law_gaps_right"]
def names : List PySem.Str := names0 ++ names1 ++ names2 ++ names3 ++ names4
theorem run (w : World) : HandSHeadRun.RunEqI R (PySem.W.view R.prog [0, 96]) hookK ob 12000 names w := by
  unfold HandSHeadRun.RunEqI
  kernel_rfl
end K17
set_option Elab.async false
set_option linter.all false
set_option maxRecDepth 100000
set_option maxHeartbeats 0
namespace K17
open PySem PySem.W PySem.Calls PyProof.Rows
theorem end_of (at_ : ∀ {w : World} {h : Heap} {K : PySem.W.Frag} {mg : PySem.Str → Option Value} {f : Addr}, K.In h → h.Ns mainGlobals mg → mg ("law" : PySem.Str) = some (.ref f) → Says w h K → LamX.LawAtS (PySem.Challenge.rw_anyload_k17_whole_turned_pairs_and_gaps) w K L2.CX0 40 63 "_law_script" mg f h) : PySem.Challenge.rw_anyload_k17_whole_turned_pairs_and_gaps.Holds := by
  w_on; o_law
  refine HandSHeadRun.head_imp (r := OpenLaw.row PySem.Challenge.rw_anyload_k17_whole_turned_pairs_and_gaps) (q := view (OpenLaw.row PySem.Challenge.rw_anyload_k17_whole_turned_pairs_and_gaps).prog [0, 96]) (H := K17.hookK) (ob := K17.ob) (M := 12000) (loose := K17.names) (d := HandSHeadRun.topDef (OpenLaw.row PySem.Challenge.rw_anyload_k17_whole_turned_pairs_and_gaps).prog 96) (kwd := []) K17.ob_eq
    K17.run (by kernel_rfl) (by kernel_rfl) (by kernel_rfl) (by rfl) (by first | assumption | decide +kernel) (by decide +kernel) ⟨rfl, rfl, rfl, rfl, rfl, by decide +kernel⟩ ?hw ?hc
  case hw => w_witness2
  case hc =>
    refine LamX.walk_ofTsE (l := PySem.Challenge.rw_anyload_k17_whole_turned_pairs_and_gaps) (n := 63) (k := 40) (x := "_law_script") (CX := fun _ => L2.CX0) rfl (by decide) (by kernel_rfl) ⟨rfl, by decide, by decide⟩ ?F (fun _ _ _ _ _ z => z)
    intro w mg fa h Y G hmg0
    obtain ⟨K, KX, c⟩ := Y
    have hmg : mg ("law" : PySem.Str) = some (.ref fa) := by
      have e : (HandSHeadRun.topDef (OpenLaw.row PySem.Challenge.rw_anyload_k17_whole_turned_pairs_and_gaps).prog 96).name = ("law" : PySem.Str) := by kernel_rfl
      rw [← e]
      exact hmg0
    exact ⟨K, KX, at_ KX G hmg c⟩
end K17
set_option Elab.async false
set_option linter.all false
set_option maxRecDepth 100000
set_option maxHeartbeats 4000000
/-! Rules that the layer lacks: o.f as a target among others; enumerate of a tuple. -/
namespace K17
open PySem PySem.Spec PyProof.Rows L2
/-! ### loops by a count -/
theorem lc_any {J : It} {n : Nat} {g : TG} {tt : TT} {te : TE} {vs : List Nat} {σ : L2.St} {H1 : Hp} {D : Addr} {Qd : Hp → Prop} (Pv : Nat → Hp → Prop) (h0 : Pv 0 (upd H1 D (.lst []))) (hgo : ∀ i H, i < n → Pv i H → J.go i H) (hst : ∀ H, Pv n H → J.stop n H)
    (hs : ∀ i x H H', i < n → Pv i H → J.yld i H x H' → g x (wipe σ vs) H' fun σ2 H2 => wipe σ2 vs = wipe σ vs ∧ tt σ2 H2 fun b H3 =>
      if b = true then te σ2 H3 fun y H4 => ∃ acc, H4 D = some (.lst acc) ∧ acc.length < sizeLine ∧ Pv (i + 1) (upd H4 D (.lst (acc ++ [y]))) else Pv (i + 1) H3) (hd : ∀ H, Pv n H → Qd H) :
    ∃ W : Nat → Nat → Hp → Prop, (∃ m, W 0 m (upd H1 D (.lst []))) ∧ ∀ i m H, W i m H →
      (J.stop i H ∧ Qd H) ∨ (J.go i H ∧ ∃ Nx : Hp → Prop, (∀ H', Nx H' → ∃ m', m' < m ∧ W (i + 1) m' H') ∧ ∀ x H', J.yld i H x H' → g x (wipe σ vs) H' fun σ2 H2 => wipe σ2 vs = wipe σ vs ∧ tt σ2 H2 fun b H3 =>
        if b = true then te σ2 H3 fun y H4 => ∃ acc, H4 D = some (.lst acc) ∧ acc.length < sizeLine ∧ Nx (upd H4 D (.lst (acc ++ [y]))) else Nx H3) := by
  refine ⟨fun i m H => m = n - i ∧ i ≤ n ∧ Pv i H, ⟨n, by simp, Nat.zero_le _, h0⟩, ?_⟩
  rintro i m H ⟨rfl, hi, p⟩
  by_cases hlt : i < n
  · exact .inr ⟨hgo i H hlt p, Pv (i + 1), fun H' p' => ⟨n - (i + 1), by omega, rfl, hlt, p'⟩, fun x H' y => hs i x H H' hlt p y⟩
  · have e : i = n := by omega
    subst e
    exact .inl ⟨hst H p, hd H p⟩
theorem for_any {J : It} {n : Nat} {g : TG} {tb : TS} {D : Ends} {σ : L2.St} {H : Hp} (Pv : Nat → L2.St → Hp → Prop) (h0 : Pv 0 σ H) (hgo : ∀ i σ H, i < n → Pv i σ H → J.go i H) (hst : ∀ σ H, Pv n σ H → J.stop n H)
    (hs : ∀ i x σ H H', i < n → Pv i σ H → J.yld i H x H' → g x σ H' fun σ2 H2 => tb { D with nx := Pv (i + 1), ct := Pv (i + 1), bk := D.nx } σ2 H2) (hd : ∀ σ H, Pv n σ H → D.nx σ H) :
    ∃ W : Nat → Nat → L2.St → Hp → Prop, (∃ m, W 0 m σ H) ∧ ∀ i m σ H, W i m σ H →
      (J.stop i H ∧ D.nx σ H) ∨ (J.go i H ∧ ∃ N : L2.St → Hp → Prop, (∀ σ' H', N σ' H' → ∃ m', m' < m ∧ W (i + 1) m' σ' H') ∧ ∀ x H', J.yld i H x H' → g x σ H' fun σ2 H2 => tb { D with nx := N, ct := N, bk := D.nx } σ2 H2) := by
  refine ⟨fun i m σ H => m = n - i ∧ i ≤ n ∧ Pv i σ H, ⟨n, by simp, Nat.zero_le _, h0⟩, ?_⟩
  rintro i m σ H ⟨rfl, hi, p⟩
  by_cases hlt : i < n
  · exact .inr ⟨hgo i σ H hlt p, Pv (i + 1), fun σ' H' p' => ⟨n - (i + 1), by omega, rfl, hlt, p'⟩, fun x H' y => hs i x σ H H' hlt p y⟩
  · have e : i = n := by omega
    subst e
    exact .inl ⟨hst σ H p, hd σ H p⟩
/-! ### o.f as a target -/
def gAtt (K : PySem.W.Frag) (ta : TE) (f : Str) : TG := fun y σ H Q => ta σ H fun x H2 => ∃ a C dx fs, x = .ref a ∧ H2 a = some (.ins C dx fs) ∧ Cls K C ∧ NoAttr K C f ∧ fs.length < 1000 ∧ Q σ (upd H2 a (.ins C dx (putF f y fs)))
theorem pg_att {X : Cx} {o : Expr} {f : Str} {ta : TE} {pos : Pos} (ha : PE X o ta) : PG X (.Attribute o f pos) (gAtt X.K ta f) := by
  refine ⟨fun pins s σ H y u Q I ry h => ?_⟩
  rw [assign_Attribute]
  refine wpAny_bind (wpAny_holding (thn (ha.run pins s σ H _ I h) fun ov s2 ⟨x, H2, I2, rx, a, C, dx, fs, ex, ea, c, n, l, q2⟩ => ?_))
  subst ex
  obtain rfl : ov = Value.ref a := rx
  refine wpAny_bind (wpAny_standAt ?_)
  refine wpAny_bind (wpAny_holding (setattr_ok I2 ea c n l ry fun s3 I3 => ?_))
  exact wpAny_release ⟨σ, _, I3, q2⟩
/-! ### enumerate(t), t a tuple -/
theorem meets_enumerate_newT (l : Addr) (items : Array Value) :
    Meets (Builtin.«enumerate.__new__» ⟨[.type "enumerate", .ref l], []⟩) (fun _ R s => s.heap.IsTuple l items ∧
      R (.ok (.ret (.ref (s.heap.push { cls := .type "tuple_iterator", data := .fields #[.ref l, .int 0 0] }).objs.size)))
        { s with heap := (s.heap.push { cls := .type "tuple_iterator", data := .fields #[.ref l, .int 0 0] }).push { cls := .type "enumerate", data := .fields #[.none, .bool false, .ref s.heap.objs.size, rawInt 0, .none, .none] } }) :=
  .of_wp fun prog w A R s h => by
    obtain ⟨hp, g, d, tk, os⟩ := s; obtain ⟨hl, h⟩ := h
    have hsub := sub_enumerate
    have hL : Heap.IsTuple (Shared.heap ⟨hp, g, d, tk, os⟩) l items := hl
    wp_walk using wpAny_pyIter_tuple hL
    refine wpAny_stack_any fun st => wpAny_pure ?_
    split
    · rename_i c _ _ _ _ _
      cases (c == Value.type "enumerate")
      · wp_walk using wpAny_pyIter_tuple hL
        exact ⟨_, rfl, h⟩
      · wp_walk using wpAny_pyIter_tuple hL
        exact ⟨_, rfl, h⟩
    · wp_walk using wpAny_pyIter_tuple hL
      exact ⟨_, rfl, h⟩
section
variable {prog : Program} {w : World} {A : Around} {E : Value → Shared → Prop} {s : Shared}
theorem call_enumerate_tup {l : Addr} {items : Array Value} {Q : Value → Shared → Prop} (hL : s.heap.IsTuple l items)
    (h : ∀ h', IsEnum h' (s.heap.objs.size + 1) s.heap.objs.size 0 .none → h'.IsTupleIter s.heap.objs.size l 0 → h'.objs.size = s.heap.objs.size + 2 →
      (∀ b o, s.heap.get? b = some o → h'.get? b = some o) → Q (.ref (s.heap.objs.size + 1)) { s with heap := h' }) :
    wpAny (model prog w) A (call (.type "enumerate") [.ref l]) Q E s := by
  refine callType_new F.called_enumerate (by decide) (F.typeCall_enumerate_1 _) (F.newCall_enumerate_1 _) (fun obj => F.args_object_init_2 obj _) F.entry_enumerate_new
    (meets_enumerate_newT l items) ⟨hL, ?_⟩
  have hz : (s.heap.push { cls := .type "tuple_iterator", data := .fields #[.ref l, .int 0 0] }).objs.size = s.heap.objs.size + 1 := Heap.size_push ..
  show _ ∧ _
  rw [hz]
  have he : IsEnum ((s.heap.push { cls := .type "tuple_iterator", data := .fields #[.ref l, .int 0 0] }).push
      { cls := .type "enumerate", data := .fields #[.none, .bool false, .ref s.heap.objs.size, rawInt 0, .none, .none] }) (s.heap.objs.size + 1) s.heap.objs.size 0 .none := by
    have := Heap.get?_push_size (s.heap.push { cls := .type "tuple_iterator", data := .fields #[.ref l, .int 0 0] })
      (o := { cls := .type "enumerate", data := .fields #[.none, .bool false, .ref s.heap.objs.size, rawInt 0, .none, .none] }) rfl
    rw [hz] at this; exact this
  refine ⟨⟨_, he, rfl⟩, h _ he ⟨_, Heap.get?_push_of_some _ (Heap.get?_push_size _ rfl), rfl, rfl⟩ (by rw [Heap.size_push, hz]) fun b o x => Heap.get?_push_of_some _ (Heap.get?_push_of_some _ x)⟩
end
def IteT (K : PySem.W.Frag) (a : Addr) : It :=
  ⟨fun i H => ∃ (xs : List V) (x : V), SqT K H a xs ∧ xs[i]? = some x, fun i H v H' => ∃ T x, v = .ref T ∧ H T = none ∧ H' = upd H T (.tup [.int (i : Nat), x]) ∧ ∀ xs, SqT K H a xs → xs[i]? = some x, fun i H => ∃ xs : List V, SqT K H a xs ∧ xs.length ≤ i⟩
theorem turn_enumT {P : Program} {w : World} {K : PySem.W.Frag} {elts : List Expr} {kk : Nat} {tpos : Pos} (a e it : Addr) :
    Turn P w K (.Tuple elts kk tpos) (IteT K a) [e, it] e (fun i h => (∃ old, IsEnum h e it ((i : Nat) : Int) old) ∧ h.IsTupleIter it a i ∧ e ≠ it ∧ a ≠ it ∧ e ≠ a) where
  mem := by simp
  obj := fun i h st b hb => by
    obtain ⟨⟨old, he⟩, ⟨o, ho, hc, hd⟩, _⟩ := st
    have e' : b = e ∨ b = it := by simpa using hb
    rcases e' with z | z
    · rw [z]; exact ⟨_, he, fun v q => nomatch q⟩
    · rw [z]; exact ⟨o, ho, fun v q => by rw [hd] at q; cases q⟩
  keep := fun i h h' st k => let ⟨⟨old, he⟩, hi, hne⟩ := st; ⟨⟨old, k e (by simp) _ he⟩, hi.at fun o q => k it (by simp) o q, hne⟩
  item := by
    intro X hP hw hK hc i pins s σ H E I hf st hg
    subst hP hw hK
    obtain ⟨⟨old, he⟩, hit, hne, hai, hea⟩ := st
    obtain ⟨xs, x, hq, hx⟩ := hg
    obtain ⟨its, rv, p, hz⟩ := I.tuple hq
    obtain ⟨u, hu, ru⟩ := rv.get hx
    have hel : e < s.heap.objs.size := Heap.lt_size he
    have hil : it < s.heap.objs.size := by obtain ⟨_, q, _⟩ := hit; exact Heap.lt_size q
    have pt : s.heap.IsTuple a its.toArray := p
    have D := Draws.tuple (prog := X.prog) (w := X.w) (A := X.A.in1) (I.ok.hd hc) it a hai its.toArray
    have hi : i < its.toArray.size := by
      have := (List.getElem?_eq_some_iff.mp hu).1
      simpa using this
    refine wpAny_pyNext_enum_itemD D he ⟨hit, pt⟩ hi hne (by simp [hne, hea]) fun x' h' tk hx' ho hst' hT hsz hk => ?_
    obtain ⟨hit', _⟩ := hst'
    have ex : x' = u := by
      have hx2 : its.toArray[i]? = some x' := hx'
      have hu2 : its.toArray[i]? = some u := by simpa using hu
      exact Option.some.inj (hx2.symm.trans hu2)
    subst ex
    refine ⟨_, rfl, wpAny_letOwnedTupleGo_enum (s := { s with heap := h', toks := tk + 1 }) ho fun h'' he' sb => ?_⟩
    have hT2 : h''.get? s.heap.objs.size = some { cls := .type "tuple", data := .seq #[.int i tk, x'] } := (sb.2 _ (Nat.ne_of_gt hel)).trans hT
    have new : ObjOk X.prog X.w (upd H s.heap.objs.size (.tup [.int (i : Nat), x])) h'' s.heap.objs.size (.tup [.int (i : Nat), x]) :=
      ⟨by show 2 ≤ sizeLine; decide, [.int i tk, x'], .cons ⟨_, rfl⟩ (.cons ru .nil), ⟨_, hT2, rfl, _, rfl⟩⟩
    have I1 : Inv X pins σ (upd H s.heap.objs.size (.tup [.int (i : Nat), x])) { s with heap := h'', toks := tk + 1 } :=
      I.turnedNew (ch := [e, it]) (fun b ob hb q => (sb.2 b (fun z => hb (by simp [z]))).trans (hk b ob (fun z => hb (by simp [z])) (fun z => hb (by simp [z])) q)) hf (Nat.le_refl _) new
    refine ⟨.ref s.heap.objs.size, _, I1, rfl, ⟨_, x, rfl, I.hok.fresh (Nat.le_refl _), rfl, fun ys hy => by rw [I.tuple_inj hy hq]; exact hx⟩, ⟨⟨x', ?_⟩, hit'.at fun o q => (sb.2 it (Ne.symm hne)).trans q, hne, hai, hea⟩, fun b hb => ?_⟩
    · have e1 : ((i + 1 : Nat) : Int) = (i : Int) + 1 := by omega
      rw [e1]; exact he'
    · have hb' : b < s.heap.objs.size := by
        have e' : b = e ∨ b = it := by simpa using hb
        rcases e' with z | z
        · rw [z]; exact hel
        · rw [z]; exact hil
      rw [upd_ne (Nat.ne_of_lt hb')]
      exact (hf b hb).1
  done := by
    intro X hP hw hK hc i pins s σ H E I hf st hg
    subst hP hw hK
    obtain ⟨⟨old, he⟩, hit, hne, hai, hea⟩ := st
    obtain ⟨xs, hq, hx⟩ := hg
    obtain ⟨its, rv, p, hz⟩ := I.tuple hq
    obtain ⟨f0, f1, f2, f3, f4, f5⟩ := hf it (by simp)
    have hl := rv.length
    have pt : s.heap.IsTuple a its.toArray := p
    have hT : s.TypeIs (.ref e) "enumerate" := ⟨_, he, rfl⟩
    unfold pyNext
    refine wpAny_bind (wpAny_attempt (wpAny_callSpecial?_slot (name := Str.ofString "__next__") hT F.slot_enumerate_next
      (wpAny_call_entry F.slot_enumerate_next hT F.entry_enumerate_next ?_ (F.args_enumerate_next_1 _))))
    show wpAny _ _ (field (.ref e) 2 >>= _) _ _ _
    refine wpAny_bind (wpAny_field he rfl (x := .ref it) rfl ?_)
    refine wpAny_bind (wpAny_nextOf_tuple_end (I.ok.hd hc) hit pt (by simp; omega) fun h' x he' hx' => ?_)
    obtain ⟨o, ho, hcl⟩ := hx'
    refine wpAny_bind (wpAny_isInstance (T := "StopIteration") (b := true) ⟨o, ho, hcl⟩ isSubtype_stop ?_)
    exact wpAny_pure ⟨rfl, I.turned (t' := s.toks) (fun b o hb q => he' b o hb q) f0 f1 f3 f4 f5⟩
  self := fun A i s Q E st h => let ⟨⟨_, he⟩, _⟩ := st; wpAny_pyIter_enum he h
/-- enumerate of a list or a tuple -/
def iEnumA (K : PySem.W.Frag) (ta : TA) : TI := fun σ H R => ta σ H fun vs H1 => ∃ a xs, vs = [.ref a] ∧ ((SqL K H1 a xs ∧ R (Ite K a) H1) ∨ (SqT K H1 a xs ∧ R (IteT K a) H1))
theorem pi_enumA {X : Cx} {e : Expr} {ta : TA} {p pos tpos : Pos} {elts : List Expr} {kk : Nat} (hg : Gl X "enumerate") (hm : X.mg "enumerate" = none) (ha : PA X [e] ta) (hs : starEach [e] X.env = [(false, eval e X.env)] := by rfl) :
    PI X (.Tuple elts kk tpos) (.Call (.Name "enumerate" p) [e] [] pos) (iEnumA X.K ta) := by
  refine ⟨fun pins s σ H R I h => ?_⟩
  refine Call_ (ld_blt I hg hm boot_enumerate (PyProof.Rows.callWith_type1 (thn (ha.run pos pins s σ H _ I h) fun us s1 ⟨vs, H1, I1, r1, q1⟩ => ?_) hs rfl))
  obtain ⟨a, xs, ex, q⟩ := q1
  subst ex
  cases r1 with
  | cons r rr =>
    cases rr
    cases r
    have fin : ∀ b ∈ [s1.heap.objs.size + 1, s1.heap.objs.size], FpOk X pins H1 b := fun b hb => by
      have e' : b = s1.heap.objs.size + 1 ∨ b = s1.heap.objs.size := by simpa using hb
      have hle : s1.heap.objs.size ≤ b := by
        rcases e' with z | z
        · rw [z]; exact Nat.le_add_right _ _
        · rw [z]; exact Nat.le_refl _
      exact I1.fpOk hle (I1.hok.fresh hle)
    rcases q with ⟨hq, q⟩ | ⟨hq, q⟩
    · obtain ⟨its, rv, p', hz⟩ := I1.list hq
      refine call_enumerate_list p'.isList fun h' he hit hsz hk => wpAny_pyIter_enum he ?_
      have I2 : Inv X pins σ H1 { s1 with heap := h' } := I1.kept (t' := s1.toks) hk
      exact ⟨s1.heap.objs.size + 1, [s1.heap.objs.size + 1, s1.heap.objs.size], _, _, H1, rfl, I2, turn_enum a (s1.heap.objs.size + 1) s1.heap.objs.size, ⟨⟨.none, he⟩, hit, Nat.succ_ne_self _⟩, fin, q⟩
    · obtain ⟨its, rv, p', hz⟩ := I1.tuple hq
      have pt : s1.heap.IsTuple a its.toArray := p'
      have hal : a < s1.heap.objs.size := by obtain ⟨o, z, _⟩ := p'; exact Heap.lt_size z
      refine call_enumerate_tup pt fun h' he hit hsz hk => wpAny_pyIter_enum he ?_
      have I2 : Inv X pins σ H1 { s1 with heap := h' } := I1.kept (t' := s1.toks) hk
      exact ⟨s1.heap.objs.size + 1, [s1.heap.objs.size + 1, s1.heap.objs.size], _, _, H1, rfl, I2, turn_enumT a (s1.heap.objs.size + 1) s1.heap.objs.size, ⟨⟨.none, he⟩, hit, Nat.succ_ne_self _, Nat.ne_of_lt hal, Nat.ne_of_gt (Nat.lt_succ_of_lt hal)⟩, fin, q⟩
end K17
set_option linter.all false
set_option Elab.async false
/-! Rows as functions: gains, least forms, one row one form. Plain Lean, no program in sight. -/
namespace RW
/-- from N on, f gains G by p places -/
def Gains (f : Nat → Int) (p : Nat) (G : Int) (N : Nat) : Prop := ∀ n, N ≤ n → f (n + p) = f n + G
theorem Gains.mono {f p G N M} (h : Gains f p G N) (hm : N ≤ M) : Gains f p G M := fun n hn => h n (Nat.le_trans hm hn)
theorem Gains.mul {f p G N} (h : Gains f p G N) : ∀ k : Nat, Gains f (k * p) (k * G) N
  | 0 => fun n _ => by simp
  | k + 1 => fun n hn => by
    have e1 := Gains.mul h k n hn
    have e2 := h (n + k * p) (by omega)
    have e3 : n + (k + 1) * p = n + k * p + p := by rw [Nat.add_mul]; omega
    have e4 : ((k + 1 : Nat) : Int) * G = (k : Int) * G + G := by
      rw [show ((k + 1 : Nat) : Int) = (k : Int) + 1 by omega, Int.add_mul]; omega
    rw [e3, e2, e1, e4]; omega
theorem Gains.mul' {f p G N} (h : Gains f p G N) (k : Nat) : Gains f (p * k) (k * G) N := by
  rw [Nat.mul_comm]; exact h.mul k
theorem Gains.sub {f p q G K N M} (h : Gains f p G N) (h2 : Gains f q K M) (hq : q ≤ p) : Gains f (p - q) (G - K) (N + M) := fun n hn => by
  have e1 := h n (by omega)
  have e2 := h2 (n + (p - q)) (by omega)
  have e3 : n + (p - q) + q = n + p := by omega
  rw [e3] at e2
  omega
theorem Gains.mod {f p q G K N M} (hq : 0 < q) (h : Gains f p G N) (h2 : Gains f q K M) : Gains f (p % q) (G - (p / q : Nat) * K) (N + M) := by
  have e := h.sub (h2.mul (p / q)) (Nat.div_mul_le_self p q)
  have e2 : p - p / q * q = p % q := by
    have := Nat.div_add_mod p q
    rw [Nat.mul_comm] at this; omega
  rw [e2] at e
  exact e
/-- rates agree -/
theorem Gains.cross {f p q G K N M} (h : Gains f p G N) (h2 : Gains f q K M) : (q : Int) * G = p * K := by
  have a := h.mul q (N + M) (by omega)
  have b := h2.mul p (N + M) (by omega)
  rw [Nat.mul_comm p q] at b
  rw [a] at b
  omega
theorem Gains.uniq {f p G K N M} (h : Gains f p G N) (h2 : Gains f p K M) : G = K := by
  have a := h (N + M) (by omega)
  have b := h2 (N + M) (by omega)
  omega
theorem Gains.congr {f g p G N} (h : Gains f p G N) (e : ∀ n, f n = g n) : Gains g p G N := fun n hn => by rw [← e, ← e]; exact h n hn
/-- a positive gain-length of f -/
def IsP (f : Nat → Int) (p : Nat) : Prop := 0 < p ∧ ∃ G N, Gains f p G N
theorem least_nat {P : Nat → Prop} (h : ∃ n, P n) : ∃ n, P n ∧ ∀ m, m < n → ¬ P m := by
  obtain ⟨n, hn⟩ := h
  induction n using Nat.strongRecOn with
  | _ n ih =>
    by_cases q : ∃ m, m < n ∧ P m
    · obtain ⟨m, h1, h2⟩ := q
      exact ih m h1 h2
    · exact ⟨n, hn, fun m hm hp => q ⟨m, hm, hp⟩⟩
/-- the shortest one divides each -/
theorem least_dvd {f : Nat → Int} {q : Nat} (hq : IsP f q) (hl : ∀ m, m < q → ¬ IsP f m) {p : Nat} (hp : IsP f p) : p % q = 0 := by
  obtain ⟨q0, K, M, hK⟩ := hq
  obtain ⟨p0, G, N, hG⟩ := hp
  have hm := Gains.mod q0 hG hK
  have lt := Nat.mod_lt p q0
  by_cases z : p % q = 0
  · exact z
  · exact absurd ⟨Nat.pos_of_ne_zero z, _, _, hm⟩ (hl _ lt)
theorem getD_lt {l : List Int} {i : Nat} (h : i < l.length) : l.getD i 0 = l[i] := by
  simp [List.getD, h]
/-- a cycle alone -/
def evc (c : List Int) (g : Int) (n : Nat) : Int := c.getD (n % c.length) 0 + g * ((n / c.length : Nat) : Int)
theorem evc_gains (c : List Int) (g : Int) (h : 0 < c.length) : Gains (evc c g) c.length g 0 := fun n _ => by
  unfold evc
  rw [Nat.add_mod_right, Nat.add_div_right n h]
  rw [show ((n / c.length + 1 : Nat) : Int) = ((n / c.length : Nat) : Int) + 1 by omega, Int.mul_add]
  omega
theorem evc_low {c : List Int} {g : Int} {n : Nat} (h : n < c.length) : evc c g n = c.getD n 0 := by
  unfold evc
  rw [Nat.mod_eq_of_lt h, Nat.div_eq_of_lt h]
  simp
/-- two functions that gain alike from 0 on and agree below p are one -/
theorem gains_ext {f g : Nat → Int} {p : Nat} {G : Int} (hp : 0 < p) (h1 : Gains f p G 0) (h2 : Gains g p G 0) (e : ∀ n, n < p → f n = g n) : ∀ n, f n = g n := by
  intro n
  induction n using Nat.strongRecOn with
  | _ n ih =>
    by_cases h : n < p
    · exact e n h
    · have a := h1 (n - p) (by omega)
      have b := h2 (n - p) (by omega)
      rw [show n - p + p = n by omega] at a b
      rw [a, b, ih (n - p) (by omega)]
/-- behind N the same -/
theorem gains_ext_from {f g : Nat → Int} {p N : Nat} {G : Int} (hp : 0 < p) (h1 : Gains f p G N) (h2 : Gains g p G N) (e : ∀ n, n < N + p → f n = g n) : ∀ n, f n = g n := by
  intro n
  induction n using Nat.strongRecOn with
  | _ n ih =>
    by_cases h : n < N + p
    · exact e n h
    · have a := h1 (n - p) (by omega)
      have b := h2 (n - p) (by omega)
      rw [show n - p + p = n by omega] at a b
      rw [a, b, ih (n - p) (by omega)]
/-- a function that gains by p from 0 and eventually by q gains by q from 0 -/
theorem gains_back {f : Nat → Int} {p q N M : Nat} {G K : Int} (hp : 0 < p) (h : Gains f p G M) (h2 : Gains f q K N) : Gains f q K M := fun n hn => by
  have a := h.mul N n hn
  have b := h.mul N (n + q) (by omega)
  have hN : N ≤ n + N * p := by
    have : N * 1 ≤ N * p := Nat.mul_le_mul_left N hp
    omega
  have d := h2 (n + N * p) hN
  rw [show n + q + N * p = n + N * p + q by omega] at b
  omega
structure Tri where
  h : List Int
  c : List Int
  g : Int
def ev (t : Tri) (n : Nat) : Int := if n < t.h.length then t.h.getD n 0 else evc t.c t.g (n - t.h.length)
theorem ev_low {t : Tri} {n : Nat} (h : n < t.h.length) : ev t n = t.h.getD n 0 := if_pos h
theorem ev_high {t : Tri} {n : Nat} (h : t.h.length ≤ n) : ev t n = evc t.c t.g (n - t.h.length) := if_neg (by omega)
theorem ev_gains {t : Tri} (h : 0 < t.c.length) : Gains (ev t) t.c.length t.g t.h.length := fun n hn => by
  rw [ev_high hn, ev_high (by omega), show n + t.c.length - t.h.length = n - t.h.length + t.c.length by omega]
  exact evc_gains t.c t.g h _ (by omega)
/-- what is computed from places is the triple's function -/
theorem ev_of {f : Nat → Int} {p N : Nat} {G : Int} {h c : List Int} (hp : 0 < p) (hf : Gains f p G N) (h1 : h.length = N) (c1 : c.length = p) (h2 : ∀ n, n < N → h.getD n 0 = f n) (c2 : ∀ n, n < p → c.getD n 0 = f (N + n)) : ∀ n, ev ⟨h, c, G⟩ n = f n := by
  have g1 : Gains (ev ⟨h, c, G⟩) p G N := by
    have := ev_gains (t := ⟨h, c, G⟩) (by show 0 < c.length; omega)
    rw [show (⟨h, c, G⟩ : Tri).c.length = p from c1, show (⟨h, c, G⟩ : Tri).h.length = N from h1] at this
    exact this
  refine gains_ext_from hp g1 hf fun n hn => ?_
  by_cases z : n < N
  · rw [ev_low (show n < h.length by omega)]
    exact h2 n z
  · rw [ev_high (show h.length ≤ n by omega)]
    show evc c G (n - h.length) = _
    rw [evc_low (by omega), h1, c2 _ (by omega), show N + (n - N) = n by omega]
/-- the least form -/
structure Canon (t : Tri) : Prop where
  ne : 0 < t.c.length
  min : ∀ q, IsP (ev t) q → t.c.length ≤ q
  hd : ∀ k, t.h.length = k + 1 → t.h.getD k 0 ≠ t.c.getD (t.c.length - 1) 0 - t.g
theorem Canon.dvd {t : Tri} (C : Canon t) {q : Nat} (h : IsP (ev t) q) : q % t.c.length = 0 :=
  least_dvd ⟨C.ne, _, _, ev_gains C.ne⟩ (fun m hm hp => absurd (C.min m hp) (by omega)) h
/-- the head is as short as may be -/
theorem Canon.head_le {t : Tri} (C : Canon t) {q N : Nat} {G : Int} (hq : 0 < q) (h : Gains (ev t) q G N) : t.h.length ≤ N := by
  apply Classical.byContradiction
  intro z
  have hL : t.h.length = t.h.length - 1 + 1 := by omega
  have g1 := ev_gains C.ne
  have g2 : Gains (ev t) t.c.length t.g N := gains_back hq h g1
  have a := g2 (t.h.length - 1) (by omega)
  rw [ev_low (show t.h.length - 1 < t.h.length by omega), ev_high (by have := C.ne; omega), show t.h.length - 1 + t.c.length - t.h.length = t.c.length - 1 by have := C.ne; omega, evc_low (by have := C.ne; omega)] at a
  exact C.hd _ hL (by omega)
theorem list_ext_getD {a b : List Int} (hl : a.length = b.length) (h : ∀ n, n < a.length → a.getD n 0 = b.getD n 0) : a = b := by
  refine List.ext_getElem hl fun n h1 h2 => ?_
  have := h n h1
  rw [getD_lt h1, getD_lt h2] at this
  exact this
/-- one row, one least form -/
theorem canon_uniq {t u : Tri} (C : Canon t) (D : Canon u) (e : ∀ n, ev t n = ev u n) : t = u := by
  have gt := ev_gains C.ne
  have gu := ev_gains D.ne
  have gu' : Gains (ev t) u.c.length u.g u.h.length := gu.congr fun n => (e n).symm
  have gt' : Gains (ev u) t.c.length t.g t.h.length := gt.congr e
  have hc : t.c.length = u.c.length := Nat.le_antisymm (C.min _ ⟨D.ne, _, _, gu'⟩) (D.min _ ⟨C.ne, _, _, gt'⟩)
  have hh : t.h.length = u.h.length := Nat.le_antisymm (C.head_le D.ne gu') (D.head_le C.ne gt')
  have hg : t.g = u.g := by
    rw [← hc] at gu'
    exact gt.uniq gu'
  obtain ⟨th, tc, tg⟩ := t
  obtain ⟨uh, uc, ug⟩ := u
  have e1 : th = uh := list_ext_getD hh fun n hn => by
    have := e n
    rw [ev_low (t := ⟨th, tc, tg⟩) hn, ev_low (t := ⟨uh, uc, ug⟩) (show n < uh.length from hh ▸ hn)] at this
    exact this
  have e2 : tc = uc := list_ext_getD hc fun n hn => by
    have hn : n < tc.length := hn
    have hh : th.length = uh.length := hh
    have hc : tc.length = uc.length := hc
    have := e (th.length + n)
    rw [ev_high (t := ⟨th, tc, tg⟩) (show th.length ≤ _ by omega), ev_high (t := ⟨uh, uc, ug⟩) (show uh.length ≤ _ by omega)] at this
    have z : evc tc tg (th.length + n - th.length) = evc uc ug (th.length + n - uh.length) := this
    rw [show th.length + n - th.length = n by omega, show th.length + n - uh.length = n by omega, evc_low hn, evc_low (by omega)] at z
    exact z
  have hg : tg = ug := hg
  rw [e1, e2, hg]
/-! ### the shortest cycle -/
/-- size s carries: what shortest_cycle asks of a size -/
def OkSize (c : List Int) (g : Int) (s : Nat) : Prop :=
  c.length % s = 0 ∧ g * s % c.length = 0 ∧ ∀ n, n < c.length → (c ++ (c.take s).map (· + g)).getD (n + s) 0 = (c ++ (c.take s).map (· + g)).getD n 0 + g * s / c.length
theorem longer_at {c : List Int} {g : Int} {s n : Nat} (hs : s ≤ c.length) (hc : 0 < c.length) (hn : n < c.length + s) : (c ++ (c.take s).map (· + g)).getD n 0 = evc c g n := by
  by_cases z : n < c.length
  · rw [evc_low z, getD_lt (by simp; omega), getD_lt z, List.getElem_append_left z]
  · have e := evc_gains c g hc (n - c.length) (by omega)
    rw [show n - c.length + c.length = n by omega, evc_low (show n - c.length < c.length by omega)] at e
    rw [e, getD_lt (show n < (c ++ (c.take s).map (· + g)).length by simp; omega), List.getElem_append_right (by omega)]
    simp only [List.getElem_map, List.getElem_take]
    rw [getD_lt (show n - c.length < c.length by omega)]
theorem okSize_gains {c : List Int} {g : Int} {s : Nat} (hc : 0 < c.length) (hs0 : 0 < s) (hs : s ≤ c.length) (h : OkSize c g s) : Gains (evc c g) s (g * s / c.length) 0 := by
  obtain ⟨h1, h2, h3⟩ := h
  have base : ∀ n, n < c.length → evc c g (n + s) = evc c g n + g * s / c.length := fun n hn => by
    have := h3 n hn
    rwa [longer_at hs hc (by omega), longer_at hs hc (by omega)] at this
  have G := evc_gains c g hc
  intro n _
  induction n using Nat.strongRecOn with
  | _ n ih =>
    by_cases z : n < c.length
    · exact base n z
    · have a := G (n - c.length) (by omega)
      have b := G (n - c.length + s) (by omega)
      have d := ih (n - c.length) (by omega)
      rw [show n - c.length + c.length = n by omega] at a
      rw [show n - c.length + s + c.length = n + s by omega] at b
      rw [b, a, d (by omega)]; omega
theorem okSize_of {c : List Int} {g : Int} {s : Nat} {K : Int} {N : Nat} (hc : 0 < c.length) (hs0 : 0 < s) (hs : s ≤ c.length) (hd : c.length % s = 0) (h : Gains (evc c g) s K N) : OkSize c g s := by
  have G := evc_gains c g hc
  have h0 : Gains (evc c g) s K 0 := gains_back hc G h
  have cr := h0.cross G
  have hcI : (c.length : Int) ≠ 0 := by omega
  have e1 : g * s = K * c.length := by rw [Int.mul_comm g, Int.mul_comm K]; exact cr.symm
  refine ⟨hd, ?_, fun n hn => ?_⟩
  · rw [e1]; exact Int.mul_emod_left _ _
  · rw [longer_at hs hc (by omega), longer_at hs hc (by omega), e1, Int.mul_ediv_cancel _ hcI]
    exact h0 n (by omega)
/-- what shortest_cycle tells -/
def Short (c : List Int) (g : Int) (c' : List Int) (g' : Int) : Prop :=
  (∃ s, 0 < s ∧ s < c.length ∧ OkSize c g s ∧ (∀ r, 0 < r → r < s → ¬ OkSize c g r) ∧ c' = c.take s ∧ g' = g * s / c.length) ∨ ((∀ r, 0 < r → r < c.length → ¬ OkSize c g r) ∧ c' = c ∧ g' = g)
theorem Short.ok {c c' : List Int} {g g' : Int} (hc : 0 < c.length) (h : Short c g c' g') : 0 < c'.length ∧ (∀ n, evc c' g' n = evc c g n) ∧ (∀ q, IsP (evc c g) q → c'.length ≤ q) ∧ c'.length ≤ c.length ∧ c.length % c'.length = 0 ∧ g * c'.length = g' * c.length := by
  have G := evc_gains c g hc
  obtain ⟨q, hq, hl⟩ := least_nat (P := IsP (evc c g)) ⟨c.length, hc, _, _, G⟩
  have dq := least_dvd hq hl (p := c.length) ⟨hc, _, _, G⟩
  obtain ⟨q0, K, N, hK⟩ := hq
  have qle : q ≤ c.length := Nat.le_of_dvd hc (Nat.dvd_of_mod_eq_zero dq)
  have okq := okSize_of hc q0 qle dq hK
  have minq : ∀ r, IsP (evc c g) r → q ≤ r := fun r hr => Nat.le_of_not_lt fun z => hl r z hr
  rcases h with ⟨s, s0, s1, s2, s3, rfl, rfl⟩ | ⟨h1, rfl, rfl⟩
  · have gs := okSize_gains hc s0 (Nat.le_of_lt s1) s2
    have e : s = q := by
      have a := minq s ⟨s0, _, _, gs⟩
      by_cases z : q < s
      · exact absurd okq (s3 q q0 z)
      · omega
    have hlen : (c.take s).length = s := by rw [List.length_take]; omega
    refine ⟨by omega, fun n => ?_, fun r hr => by rw [hlen, e]; exact minq r hr, by omega, by rw [hlen]; exact s2.1, ?_⟩
    · have g1 := evc_gains (c.take s) (g * s / c.length) (by omega)
      rw [hlen] at g1
      refine gains_ext s0 g1 gs (fun n hn => ?_) n
      rw [evc_low (by omega), evc_low (by omega), getD_lt (by omega), getD_lt (by omega), List.getElem_take]
    · rw [hlen]
      have hcI : (c.length : Int) ≠ 0 := by omega
      have := Int.ediv_mul_cancel (Int.dvd_of_emod_eq_zero s2.2.1)
      rw [this]
  · refine ⟨hc, fun _ => rfl, fun r hr => ?_, Nat.le_refl _, Nat.mod_self _, Int.mul_comm _ _ ▸ rfl⟩
    have : q = c'.length := by
      by_cases z : q < c'.length
      · exact absurd okq (h1 q q0 z)
      · omega
    rw [← this]; exact minq r hr
/-- one turn of least_form's loop: the head's last place goes into the cycle -/
theorem fold_turn {h c : List Int} {g : Int} (hc : 0 < c.length) {m : Nat} (hm : m + 1 ≤ h.length) (e : h.getD m 0 = c.getD (c.length - 1) 0 - g) (n : Nat) : ev ⟨h.take m, h.getD m 0 :: c.dropLast, g⟩ n = ev ⟨h.take (m + 1), c, g⟩ n := by
  have G := ev_gains (t := ⟨h.take (m + 1), c, g⟩) hc
  have l1 : (h.take (m + 1)).length = m + 1 := by rw [List.length_take]; omega
  have l0 : (h.take m).length = m := by rw [List.length_take]; omega
  have G1 : Gains (ev ⟨h.take (m + 1), c, g⟩) c.length g (m + 1) := by
    have z := G
    rw [show (⟨h.take (m + 1), c, g⟩ : Tri).h.length = m + 1 from l1] at z
    exact z
  have evm : ev ⟨h.take (m + 1), c, g⟩ m = h.getD m 0 := by
    rw [ev_low (show m < (h.take (m + 1)).length by omega)]
    show (h.take (m + 1)).getD m 0 = _
    rw [getD_lt (by omega), getD_lt (by omega), List.getElem_take]
  have G0 : Gains (ev ⟨h.take (m + 1), c, g⟩) c.length g m := fun k hk => by
    by_cases z : k = m
    · subst z
      rw [evm, ev_high (show (h.take (k + 1)).length ≤ k + c.length by omega)]
      show evc c g (k + c.length - (h.take (k + 1)).length) = _
      rw [l1, show k + c.length - (k + 1) = c.length - 1 by omega, evc_low (by omega)]
      omega
    · exact G1 k (by omega)
  have lc : (h.getD m 0 :: c.dropLast).length = c.length := by simp; omega
  refine ev_of (p := c.length) (N := m) hc G0 l0 lc (fun k hk => ?_) (fun k hk => ?_) n
  · rw [ev_low (show k < (h.take (m + 1)).length by omega)]
    show _ = (h.take (m + 1)).getD k 0
    rw [getD_lt (by omega), getD_lt (by omega), List.getElem_take, List.getElem_take]
  · cases k with
    | zero => exact evm.symm
    | succ k =>
      rw [ev_high (show (h.take (m + 1)).length ≤ m + (k + 1) by omega)]
      show _ = evc c g (m + (k + 1) - (h.take (m + 1)).length)
      rw [l1, show m + (k + 1) - (m + 1) = k by omega, evc_low (by omega)]
      show c.dropLast.getD k 0 = _
      rw [getD_lt (by rw [List.length_dropLast]; omega), getD_lt (by omega), List.getElem_dropLast]
/-- where the loop ends -/
theorem canon_end {h c : List Int} {g : Int} {m : Nat} (hc : 0 < c.length) (hm : m ≤ h.length) (hmin : ∀ q, IsP (ev ⟨h.take m, c, g⟩) q → c.length ≤ q) (hd : m = 0 ∨ h.getD (m - 1) 0 ≠ c.getD (c.length - 1) 0 - g) : Canon ⟨h.take m, c, g⟩ := by
  refine ⟨hc, hmin, fun k hk => ?_⟩
  have hk : (h.take m).length = k + 1 := hk
  rw [List.length_take] at hk
  have e : k = m - 1 := by omega
  show (h.take m).getD k 0 ≠ _
  subst e
  rw [getD_lt (by rw [List.length_take]; omega), List.getElem_take, ← getD_lt (l := h) (by omega)]
  rcases hd with z | z
  · omega
  · exact z
/-- the gain-lengths of a row are those of its cycle -/
theorem isP_shift {t : Tri} (q : Nat) : IsP (ev t) q ↔ IsP (evc t.c t.g) q := by
  constructor
  · rintro ⟨q0, G, N, h⟩
    refine ⟨q0, G, N, fun n hn => ?_⟩
    have := h (n + t.h.length) (by omega)
    rw [ev_high (by omega), ev_high (by omega)] at this
    rw [show n + t.h.length + q - t.h.length = n + q by omega, show n + t.h.length - t.h.length = n by omega] at this
    exact this
  · rintro ⟨q0, G, N, h⟩
    refine ⟨q0, G, N + t.h.length, fun n hn => ?_⟩
    rw [ev_high (by omega), ev_high (by omega), show n + q - t.h.length = n - t.h.length + q by omega]
    exact h _ (by omega)
theorem isP_congr {f g : Nat → Int} (e : ∀ n, f n = g n) {q : Nat} (h : IsP f q) : IsP g q := by
  obtain ⟨q0, G, N, h⟩ := h
  exact ⟨q0, G, N, h.congr e⟩
end RW
set_option Elab.async false
set_option linter.all false
set_option maxRecDepth 100000
set_option maxHeartbeats 4000000
/-! The ground of the walk: what the top has left (Txt), the defs as promises by name (Ok), heaps that grow (Ge), rows on the heap (IsRow). -/
namespace K17
open PySem PySem.Spec PyProof.Rows L2 LamX
/-! ### what the top has left -/
def tyN : List String := ["int", "NoneType", "bool", "str", "list", "tuple", "dict", "function"]
def frN : List Str := ["len", "range", "max", "min", "sum", "isinstance", "list", "tuple", "int", "bool", "sorted", "enumerate", "zip", "all", "abs", "dict", "super", "ValueError"]
def clN : List Str := ["LoadError", "BadRow", "Row"]
abbrev rowC (K : PySem.W.Frag) : Addr := He.ga K "Row"
structure Txt (K : PySem.W.Frag) (mg : Str → Option Value) : Prop where
  g : ∀ x ∈ gN ++ clN, mg x = some (.ref (He.ga K x))
  f : ∀ x ∈ frN, mg x = none
  d : ∀ (i : Nat) (d : He.DefD), fn[i]? = some d → ∃ fd, FunD K d.name d.qual d.params d.body d.scope [] [] (He.fAd K d.at_) fd
  cls : Cls K (rowC K)
  mkr : Mk K (rowC K) (He.ma K (rowC K) "__init__")
  met : ∀ m ∈ (["value", "at", "upto", "head", "cycle", "gain", "rate", "__eq__"] : List Str), Meth K (rowC K) m (He.ma K (rowC K) m)
  at1 : NoAttr K (rowC K) "early"
  at2 : NoAttr K (rowC K) "round"
  at3 : NoAttr K (rowC K) "more"
  gcd : mg "gcd" = some (.builtin "math.gcd")
  isT : ∀ t ∈ tyN, PySem.W.kitOne K (.type t) (.ref (rowC K)) = some false
  isR : ∀ t ∈ tyN, PySem.W.kitOne K (.ref (rowC K)) (.type t) = some false
  rr : PySem.W.kitOne K (.ref (rowC K)) (.ref (rowC K)) = some true
  c1 : PySem.W.findIn K (.ref (rowC K)) "__class__" = some (some (.builtin "object.__class__"))
  c2 : PySem.W.specialIn K (.builtin "object.__class__") "__get__" = some (some (.builtin "getset_descriptor.__get__"))
  c3 : PySem.W.takesIn K (.builtin "object.__class__") = some true
  c4 : PySem.W.mroIn K (rowC K) (.type "object") = some true
  tb12 : (He.cT K ("least_of_two", none)).2 ≠ (He.cT K ("_law_gaps_right", none)).2
  tb13 : (He.cT K ("least_of_two", none)).2 ≠ (He.cT K ("law", none)).2
  tb23 : (He.cT K ("_law_gaps_right", none)).2 ≠ (He.cT K ("law", none)).2
def bN : List Str := frN
section
variable {K : PySem.W.Frag} {mg : Str → Option Value} (X : Txt K mg)
theorem Txt.b_len (X : Txt K mg) : mg "len" = none := X.f "len" (by decide +kernel)
theorem Txt.b_range (X : Txt K mg) : mg "range" = none := X.f "range" (by decide +kernel)
theorem Txt.b_max (X : Txt K mg) : mg "max" = none := X.f "max" (by decide +kernel)
theorem Txt.b_min (X : Txt K mg) : mg "min" = none := X.f "min" (by decide +kernel)
theorem Txt.b_sum (X : Txt K mg) : mg "sum" = none := X.f "sum" (by decide +kernel)
theorem Txt.b_isinstance (X : Txt K mg) : mg "isinstance" = none := X.f "isinstance" (by decide +kernel)
theorem Txt.b_list (X : Txt K mg) : mg "list" = none := X.f "list" (by decide +kernel)
theorem Txt.b_tuple (X : Txt K mg) : mg "tuple" = none := X.f "tuple" (by decide +kernel)
theorem Txt.b_int (X : Txt K mg) : mg "int" = none := X.f "int" (by decide +kernel)
theorem Txt.b_bool (X : Txt K mg) : mg "bool" = none := X.f "bool" (by decide +kernel)
theorem Txt.b_sorted (X : Txt K mg) : mg "sorted" = none := X.f "sorted" (by decide +kernel)
theorem Txt.b_enumerate (X : Txt K mg) : mg "enumerate" = none := X.f "enumerate" (by decide +kernel)
theorem Txt.b_zip (X : Txt K mg) : mg "zip" = none := X.f "zip" (by decide +kernel)
theorem Txt.b_all (X : Txt K mg) : mg "all" = none := X.f "all" (by decide +kernel)
theorem Txt.b_abs (X : Txt K mg) : mg "abs" = none := X.f "abs" (by decide +kernel)
theorem Txt.b_dict (X : Txt K mg) : mg "dict" = none := X.f "dict" (by decide +kernel)
end
/-- the code tables that grow: those of the defs that make lambdas -/
def tbs (K : PySem.W.Frag) : List (Addr × Str) := [((He.cT K ("least_of_two", none)).2, "least_of_two.<locals>.<lambda>"), ((He.cT K ("_law_gaps_right", none)).2, "_law_gaps_right.<locals>.<lambda>"), ((He.cT K ("law", none)).2, "law.<locals>.<lambda>")]
/-! ### heaps that grow: all that is tracked stays, the code tables may grow -/
structure Ge (T : List (Addr × Str)) (H H' : Hp) : Prop where
  ext : ExtN H H'
  tab : Tabs T H → Tabs T H'
section
variable {T : List (Addr × Str)} {H H' H1 H2 : Hp} {a p : Addr} {o : HO}
theorem Ge.refl (H : Hp) : Ge T H H := ⟨ExtN.refl H, id⟩
theorem Ge.trans (x : Ge T H H1) (y : Ge T H1 H2) : Ge T H H2 := ⟨x.ext.trans y.ext, fun t => y.tab (x.tab t)⟩
theorem Ge.of (e : ∀ b o, H b = some o → H' b = some o) : Ge T H H' := ⟨ExtN.of e, fun t => t.ext e⟩
theorem Ge.new (h : H p = none) : Ge T H (upd H p o) := Ge.of fun b u e => by rw [upd_ne (ne_of_none e h)]; exact e
theorem Ge.at (x : Ge T H H') (h : H a = some o) (n : ∀ ps, o ≠ .tbl ps := by intro _ z; cases z) : H' a = some o := x.ext a o h n
theorem Ge.tup (x : Ge T H H') {xs : List V} (h : H a = some (.tup xs)) : H' a = some (.tup xs) := x.at h
theorem Ge.lst (x : Ge T H H') {xs : List V} (h : H a = some (.lst xs)) : H' a = some (.lst xs) := x.at h
theorem Ge.rd (x : Ge T H H') (n : ∀ ps, o ≠ .tbl ps) (h : Rd H a o) : Rd H' a o := by
  rcases h with h | ⟨ob, h⟩
  · exact .inl (x.at h n)
  · exact .inr ⟨ob, x.at h⟩
theorem Ge.sqL {K : PySem.W.Frag} (x : Ge T H H') {xs : List V} (h : SqL K H a xs) : SqL K H' a xs := h.imp (x.rd (by intro _ z; cases z)) id
theorem Ge.sqT {K : PySem.W.Frag} (x : Ge T H H') {xs : List V} (h : SqT K H a xs) : SqT K H' a xs := h.imp (x.rd (by intro _ z; cases z)) id
/-- a place that is new later was new before -/
theorem Ge.fresh (x : Ge T H H') (h : H' p = none) (n : ∀ ps, H p ≠ some (.tbl ps)) : H p = none := by
  cases e : H p with
  | none => rfl
  | some u =>
    rw [x.at e fun ps z => n ps (by rw [e, z])] at h
    cases h
end
abbrev Gr (K : PySem.W.Frag) (H H' : Hp) : Prop := Ge (tbs K) H H'
/-! ### a row on the heap -/
def RowO (K : PySem.W.Frag) (H : Hp) (p : Addr) (t : RW.Tri) : Prop :=
  ∃ dx e r, H p = some (.ins (rowC K) dx [("early", .ref e), ("round", .ref r), ("more", .int t.g)]) ∧ H e = some (.tup (t.h.map V.int)) ∧ H r = some (.tup (t.c.map V.int))
/-- at p a row that is the function f -/
def IsRow (K : PySem.W.Frag) (H : Hp) (p : Addr) (f : Nat → Int) : Prop := ∃ t, RW.Canon t ∧ (∀ n, RW.ev t n = f n) ∧ (t.h.length ≤ 8000000 ∧ t.c.length ≤ 8000000) ∧ RowO K H p t
section
variable {T : List (Addr × Str)} {K : PySem.W.Frag} {H H' : Hp} {p : Addr} {f : Nat → Int}
theorem Ge.rowO (x : Ge T H H') {t : RW.Tri} (h : RowO K H p t) : RowO K H' p t := by
  obtain ⟨dx, e, r, h1, h2, h3⟩ := h
  exact ⟨dx, e, r, x.at h1, x.tup h2, x.tup h3⟩
theorem Ge.row (x : Ge T H H') (h : IsRow K H p f) : IsRow K H' p f := by
  obtain ⟨t, c, e, z, r⟩ := h
  exact ⟨t, c, e, z, x.rowO r⟩
theorem IsRow.congr {g : Nat → Int} (h : IsRow K H p f) (e : ∀ n, f n = g n) : IsRow K H p g := by
  obtain ⟨t, c, e1, z, r⟩ := h
  exact ⟨t, c, fun n => (e1 n).trans (e n), z, r⟩
end
/-! ### known tests -/
theorem iteDT {p : Prop} [Decidable p] {A B : Prop} (h : p) (a : A) : if decide p = true then A else B := by
  rw [if_pos (decide_eq_true h)]; exact a
theorem iteDF {p : Prop} [Decidable p] {A B : Prop} (h : ¬ p) (b : B) : if decide p = true then A else B := by
  rw [if_neg (by rw [decide_eq_true_eq]; exact h)]; exact b
theorem iteD {p : Prop} [Decidable p] {A B : Prop} (h1 : p → A) (h2 : ¬ p → B) : if decide p = true then A else B := by
  by_cases h : p
  · exact iteDT h (h1 h)
  · exact iteDF h (h2 h)
theorem qDT {p : Prop} [Decidable p] {Q : VK} {H : Hp} (h : p) (q : Q (.bl true) H) : Q (.bl (decide p)) H := by
  rw [decide_eq_true h]; exact q
theorem qDF {p : Prop} [Decidable p] {Q : VK} {H : Hp} (h : ¬ p) (q : Q (.bl false) H) : Q (.bl (decide p)) H := by
  rw [decide_eq_false h]; exact q
/-! ### a def by its name -/
structure Ok (P : Program) (w : World) (K : PySem.W.Frag) (mg : Str → Option Value) (base : Heap) (CX : CXT) (k : Nat) (x : Str) (ps : List Str) (sp : Sp) : Prop where
  ex : ∃ fd, FnOk P w K mg base CX k (He.ga K x) fd ps sp ∧ Binds K fd ps []
  kp : PySem.W.keepIn K (.ref (He.ga K x)) = true
  gm : mg x = some (.ref (He.ga K x))
structure OkM (P : Program) (w : World) (K : PySem.W.Frag) (mg : Str → Option Value) (base : Heap) (CX : CXT) (k : Nat) (m : Str) (ps : List Str) (sp : Sp) : Prop where
  ex : ∃ fd, FnOk P w K mg base CX k (He.ma K (rowC K) m) fd ps sp ∧ Binds K fd ps []
section
variable {P : Program} {w : World} {K : PySem.W.Frag} {mg : Str → Option Value} {base : Heap} {CX : CXT} {k : Nat} {x : Str} {N ps : List Str} {sp : Sp} {st : Stmt}
theorem Ok.imp {sp' : Sp} (O : Ok P w K mg base CX k x ps sp) (h : ∀ vs H Q E, sp' vs H Q E → sp vs H Q E) : Ok P w K mg base CX k x ps sp' := by
  obtain ⟨⟨fd, F, b⟩, kp, gm⟩ := O
  exact ⟨⟨fd, F.imp h, b⟩, kp, gm⟩
theorem ok_def (X : Txt K mg) (i : Nat) (hi : fn[i]? = some (dOf (x, none) x x st)) (S : FnScope N ps (defScope st)) (hx : x ∈ gN ++ clN) (len : ∀ vs H Q E, sp vs H Q E → vs.length = ps.length)
    (hb : ∀ (kV doc pm : Value) (an : Option Addr) (cdv ct : Value) (us : List Value), us.length = ps.length → bindArgs (PySem.W.fnOf x x (defArgs st) (defBody st) (defScope st) .none kV doc pm an cdv ct) ⟨us, []⟩ = pure (ps.zip us))
    (hbody : ∀ (f : Addr) (cdv : Value) (A : Around) (outer : List Env) (s : Shared) (H : Hp) (vs : List V) (Q : VK) (E : XK), Room k (A.deeper (envOfC x (defScope st) s.heap.objs.size f cdv)) → sp vs H Q E →
      ∃ t, PSs (cxOf CX P w K mg base N x (defScope st) f cdv A outer s H E) (defBody st) t ∧ t { nx := fun _ H' => Q .non H', rt := Q } (start N vs) H) : Ok P w K mg base CX (k + 1) x ps sp := by
  obtain ⟨fd, F⟩ := X.d i _ hi
  exact ⟨⟨fd, FunD.ok F S len (fun cdv A outer s H vs Q E hr h => hbody _ cdv A outer s H vs Q E hr h), FunD.bindsN F hb⟩, F.kp, X.g x hx⟩
/-- .. of which no exception is to leave -/
theorem ok_def0 (X : Txt K mg) (i : Nat) (hi : fn[i]? = some (dOf (x, none) x x st)) (S : FnScope N ps (defScope st)) (hx : x ∈ gN ++ clN) (len : ∀ vs H Q E, sp vs H Q E → vs.length = ps.length)
    (hb : ∀ (kV doc pm : Value) (an : Option Addr) (cdv ct : Value) (us : List Value), us.length = ps.length → bindArgs (PySem.W.fnOf x x (defArgs st) (defBody st) (defScope st) .none kV doc pm an cdv ct) ⟨us, []⟩ = pure (ps.zip us))
    (hbody : ∀ (f : Addr) (cdv : Value) (A : Around) (outer : List Env) (s : Shared) (H : Hp) (vs : List V) (Q : VK) (E : XK), Room k (A.deeper (envOfC x (defScope st) s.heap.objs.size f cdv)) → sp vs H Q E →
      ∃ t, PSs (cxOf CX0 P w K mg base N x (defScope st) f cdv A outer s H E).nox (defBody st) t ∧ t { nx := fun _ H' => Q .non H', rt := Q } (start N vs) H) : Ok P w K mg base CX0 (k + 1) x ps sp :=
  ok_def X i hi S hx len hb fun f cdv A outer s H vs Q E hr h => by
    obtain ⟨t, h1, h2⟩ := hbody f cdv A outer s H vs Q E hr h
    exact ⟨t, h1.nox, h2⟩
theorem ok_met0 {m q : Str} (X : Txt K mg) (i : Nat) (hi : fn[i]? = some (dOf ("Row", some m) m q st)) (S : FnScope N ps (defScope st)) (len : ∀ vs H Q E, sp vs H Q E → vs.length = ps.length)
    (hb : ∀ (kV doc pm : Value) (an : Option Addr) (cdv ct : Value) (us : List Value), us.length = ps.length → bindArgs (PySem.W.fnOf m q (defArgs st) (defBody st) (defScope st) .none kV doc pm an cdv ct) ⟨us, []⟩ = pure (ps.zip us))
    (hbody : ∀ (f : Addr) (cdv : Value) (A : Around) (outer : List Env) (s : Shared) (H : Hp) (vs : List V) (Q : VK) (E : XK), Room k (A.deeper (envOfC q (defScope st) s.heap.objs.size f cdv)) → sp vs H Q E →
      ∃ t, PSs (cxOf CX0 P w K mg base N q (defScope st) f cdv A outer s H E).nox (defBody st) t ∧ t { nx := fun _ H' => Q .non H', rt := Q } (start N vs) H) : OkM P w K mg base CX0 (k + 1) m ps sp := by
  obtain ⟨fd, F⟩ := X.d i _ hi
  exact ⟨⟨fd, FunD.ok F S len (fun cdv A outer s H vs Q E hr h => by
    obtain ⟨t, h1, h2⟩ := hbody _ cdv A outer s H vs Q E hr h
    exact ⟨t, h1.nox, h2⟩), FunD.bindsN F hb⟩⟩
end
/-! ### calls by name -/
section
variable {X : Cx} {CX : CXT} {j k : Nat} {ps : List Str} {sp : Sp} {x : Str} {E : XK} {e o : Expr} {es : List Expr} {t : TA} {ta : TE} {p pos apos : Pos} {m : Str}
theorem pe_o (O : Ok X.prog X.w X.K X.mg X.base CX j x ps sp) (hr : Room k X.A) (hx : Passes CX X E) (ha : PA X (e :: es) t) (hj : j ≤ k := by decide) (hg : Gl X x := by rfl) (hdb : (x == ("__debug__" : Str)) = false := by decide)
    (he : starEach (e :: es) X.env = (false, eval e X.env) :: starEach es X.env := by rfl) (hpl : (backTo pos (starEach es X.env)).any (·.1) = false := by rfl) : PE X (.Call (.Name x p) (e :: es) [] pos) (tCall sp [] E t) := by
  obtain ⟨⟨fd, F, b⟩, kp, gm⟩ := O
  exact pe_call F (hr.mono hj) hg gm kp b .nil hx ha hdb he hpl
theorem pe_m0 {pl : Sem Bool} (T : Txt X.K X.mg) (hm : m ∈ (["value", "at", "upto", "head", "cycle", "gain", "rate", "__eq__"] : List Str)) (O : OkM X.prog X.w X.K X.mg X.base CX j m ps sp) (hr : Room k X.A) (hx : Passes CX X E) (he : PE X o ta) (hj : j ≤ k := by decide)
    (ht : eval (.Call (.Attribute o m apos) [] [] pos) X.env = (do
      let ov ← eval o X.env
      standAt apos.atName
      let (f, first) ← holding [ov] (getMethod ov m pl)
      callWith pos f first (backTo pos (starEach [] X.env)) (backToKw pos (keywordEach [] X.env))) := by rfl) :
    PE X (.Call (.Attribute o m apos) [] [] pos) (tMeth (rowC X.K) m sp [] E ta tNil) := by
  obtain ⟨fd, F, b⟩ := O.ex
  exact pe_meth0 he T.cls (T.met m hm) F (hr.mono hj) b .nil hx ht
theorem pe_m1 {pl : Sem Bool} (T : Txt X.K X.mg) (hm : m ∈ (["value", "at", "upto", "head", "cycle", "gain", "rate", "__eq__"] : List Str)) (O : OkM X.prog X.w X.K X.mg X.base CX j m ps sp) (hr : Room k X.A) (hx : Passes CX X E) (he : PE X o ta) (ha : PA X (e :: es) t) (hj : j ≤ k := by decide)
    (hst : starEach (e :: es) X.env = (false, eval e X.env) :: starEach es X.env := by rfl) (hpl : (backTo pos (starEach es X.env)).any (·.1) = false := by rfl)
    (ht : eval (.Call (.Attribute o m apos) (e :: es) [] pos) X.env = (do
      let ov ← eval o X.env
      standAt apos.atName
      let (f, first) ← holding [ov] (getMethod ov m pl)
      callWith pos f first (backTo pos (starEach (e :: es) X.env)) (backToKw pos (keywordEach [] X.env))) := by rfl) :
    PE X (.Call (.Attribute o m apos) (e :: es) [] pos) (tMeth (rowC X.K) m sp [] E ta t) := by
  obtain ⟨fd, F, b⟩ := O.ex
  exact pe_meth he T.cls (T.met m hm) F (hr.mono hj) b .nil hx ha hst hpl ht
/-- Row(e, ..) -/
theorem pe_row (T : Txt X.K X.mg) (O : OkM X.prog X.w X.K X.mg X.base CX j "__init__" ps sp) (hr : Room k X.A) (hx : Passes CX X E) (ha : PA X (e :: es) t) (hj : j + 1 ≤ k := by decide) (hg : Gl X "Row" := by rfl)
    (he : starEach (e :: es) X.env = (false, eval e X.env) :: starEach es X.env := by rfl) (hpl : (backTo pos (starEach es X.env)).any (·.1) = false := by rfl) : PE X (.Call (.Name "Row" p) (e :: es) [] pos) (tMake (rowC X.K) sp [] E t) := by
  obtain ⟨fd, F, b⟩ := O.ex
  exact pe_make T.mkr F (hr.mono hj) hg (T.g "Row" (by decide +kernel)) b .nil hx ha (by decide) he hpl
end
/-! ### the layer's rules with K by itself (so that a block's context does not stand in a reading) -/
section
variable {X : Cx} {K : PySem.W.Frag} {e a b o : Expr} {es : List Expr} {ta tb te : TE} {t : TA} {pos p p2 : Pos} {f : Str}
def rLenOf (K : PySem.W.Frag) : List V → Hp → VK → Prop := fun xs H Q => ∃ p ys, xs = [.ref p] ∧ (SqL K H p ys ∨ SqT K H p ys) ∧ Q (.int ys.length) H
def rListOf (K : PySem.W.Frag) : List V → Hp → VK → Prop := fun xs H Q => ∃ p ys, xs = [.ref p] ∧ (SqL K H p ys ∨ SqT K H p ys) ∧ ∀ l, H l = none → Q (.ref l) (upd H l (.lst ys))
inductive RTup1 (K : PySem.W.Frag) : V → Hp → VK → Prop
  | mk {v : V} {H : Hp} {Q : VK} : (∃ p ys, v = .ref p ∧ ((SqL K H p ys ∧ ∀ l, H l = none → Q (.ref l) (upd H l (.tup ys))) ∨ (SqT K H p ys ∧ Q (.ref p) H))) → RTup1 K v H Q
def rTupOf (K : PySem.W.Frag) : List V → Hp → VK → Prop := fun xs H Q => ∃ v, xs = [v] ∧ RTup1 K v H Q
theorem CallR.weak {X : Cx} {f : PySem.Value} {r r' : List V → Hp → VK → Prop} (h : CallR X f r) (i : ∀ xs H Q, r' xs H Q → r xs H Q) : CallR X f r' := fun pins s σ H xs us Q I hv hr => h pins s σ H xs us Q I hv (i xs H Q hr)
theorem len_K (hK : X.K = K := by rfl) : CallR X (.builtin "len") (rLenOf K) := by subst hK; exact call_len_seq
theorem ixL_K (hK : X.K = K := by rfl) : IxR X (rIxL K) := by subst hK; exact ix_list
theorem ixT_K (hK : X.K = K := by rfl) : IxR X (rIxT K) := by subst hK; exact ix_tup
inductive RSlA1 (K : PySem.W.Frag) (x : V) (lo hi : Option Int) (H : Hp) (Q : VK) : Prop
  | mk (h : rSlA K x lo hi H Q) : RSlA1 K x lo hi H Q
inductive RSlL1 (K : PySem.W.Frag) (x : V) (lo hi : Option Int) (H : Hp) (Q : VK) : Prop
  | mk (h : rSlL K x lo hi H Q) : RSlL1 K x lo hi H Q
theorem SlR.weak {X : Cx} {r r' : V → Option Int → Option Int → Hp → VK → Prop} (h : SlR X r) (i : ∀ x lo hi H Q, r' x lo hi H Q → r x lo hi H Q) : SlR X r' := by
  intro pins s σ H x v vl vu lo hi sl Q I rx hs pl pu hh
  exact h pins s σ H x v vl vu lo hi sl Q I rx hs pl pu (i _ _ _ _ _ hh)
theorem slL_K (hK : X.K = K := by rfl) : SlR X (RSlL1 K) := by subst hK; exact SlR.weak sl_list fun _ _ _ _ _ h => h.rec id
theorem slT_K (hK : X.K = K := by rfl) : SlR X (RSlA1 K) := by subst hK; exact SlR.weak sl_tupA fun _ _ _ _ _ h => h.rec id
theorem max_K (hc : X.calm = true := by rfl) (hK : X.K = K := by rfl) : CallR X (.builtin "max") (rMax K) := by subst hK; exact cr_max hc
theorem min_K (hc : X.calm = true := by rfl) (hK : X.K = K := by rfl) : CallR X (.builtin "min") (rMin K) := by subst hK; exact cr_min hc
theorem sum_K (hc : X.calm = true := by rfl) (hK : X.K = K := by rfl) : CallR X (.builtin "sum") (rSum K) := by subst hK; exact cr_sum hc
theorem all_K (hc : X.calm = true := by rfl) (hK : X.K = K := by rfl) : CallR X (.builtin "all") (rAll K) := by subst hK; exact cr_all hc
theorem sorted_K (hK : X.K = K := by rfl) : CallR X (.builtin "sorted") (rSorted K) := by subst hK; exact cr_sorted
theorem list_K (hK : X.K = K := by rfl) : CallR X (.type "list") (rListOf K) := by subst hK; exact call_list_of
theorem tuple_K (hK : X.K = K := by rfl) : CallR X (.type "tuple") (rTupOf K) := by
  subst hK
  refine CallR.weak call_tuple_of ?_
  rintro xs H Q ⟨v, rfl, ⟨p, ys, rfl, h⟩⟩
  exact ⟨p, ys, rfl, h⟩
theorem isi_K (hK : X.K = K := by rfl) : CallR X (.builtin "isinstance") (rIsi K) := by subst hK; exact call_isi
theorem isiT_K (hK : X.K = K := by rfl) : CallR X (.builtin "isinstance") (rIsiT K) := by subst hK; exact call_isiT
theorem index_K (hK : X.K = K := by rfl) : MtR X "list.index" (rIndex K) := by subst hK; exact mt_index
theorem eqD_K (hu : X.A.units + 64 < cLine) (hK : X.K = K := by rfl) : OpR X (compareOp .Eq) (rEqD K) := by subst hK; exact op_eqD hu
theorem neD_K (hu : X.A.units + 64 < cLine) (hK : X.K = K := by rfl) : OpR X (compareOp .NotEq) (rNeD K) := by subst hK; exact op_neD hu
theorem ltT_K (hu : X.A.units < cLine) (hK : X.K = K := by rfl) : OpR X (compareOp .Lt) (rLtT K) := by subst hK; exact op_ltT hu
theorem fld_K (he : PE X e ta) (hK : X.K = K := by rfl) (hb : attributeBase e f X.env (eval e X.env) = eval e X.env := by rfl) : PE X (.Attribute e f pos) (tFld K ta f) := by subst hK; exact pe_fld he hb
theorem bm_K {T id : String} {name : Str} {r : V → List V → Hp → VK → Prop} {to : TE} {apos cpos : Pos} (pa : PlainAttrs T) (slot : Slot T name id) (hty : typeOf (.builtin id) = pure (.type "method_descriptor")) (hm : MtR X id r) (ho : PE X o to) (ha : PA X (e :: es) t) (hK : X.K = K := by rfl)
    (hbase : attributeBase o name X.env (eval o X.env) = eval o X.env := by rfl)
    (hfew : ((backTo cpos (starEach (e :: es) X.env)).all (fun x => !x.1) && (backToKw cpos (keywordEach [] X.env)).all (fun x => x.1.isSome)
      && decide ((e :: es).length + ([] : List Keyword).length + (if ([] : List Keyword).isEmpty then 0 else 1) < 30)) = true := by rfl)
    (hline : (apos.endLine == cpos.line) = true := by rfl) (hs : starEach (e :: es) X.env = (false, eval e X.env) :: starEach es X.env := by rfl) (hplain : (backTo cpos (starEach es X.env)).any (·.1) = false := by rfl) :
    PE X (.Call (.Attribute o name apos) (e :: es) [] cpos) (tBM K T r to t) := by subst hK; exact pe_bm pa slot hty hm ho ha hbase hfew hline hs hplain
def tTruth (K : PySem.W.Frag) (ta : TE) : TT := fun σ H Q => ta σ H fun x H' => ∃ k, TruV K x H' k ∧ Q k H'
theorem truth_K (ha : PE X a ta) (hK : X.K = K := by rfl) (he : ∀ whole, isTrue a X.env whole = (do let v ← whole; standAt a.pos; holding [v] (truthy v)) := by intro _; rfl) : PT X a (tTruth K ta) := by subst hK; exact pt_truth ha he
theorem piL_K {tg l : Expr} {tl : TE} (hl : PE X l tl) (hK : X.K = K := by rfl) : PI X tg l (iList K tl) := by subst hK; exact pi_list hl
theorem piT_K {tg l : Expr} {tl : TE} (hl : PE X l tl) (hK : X.K = K := by rfl) : PI X tg l (iTup K tl) := by subst hK; exact pi_tup hl
theorem piE_K {ta : TA} {tpos : Pos} {elts : List Expr} {kk : Nat} (hm : X.mg "enumerate" = none) (ha : PA X [e] ta) (hg : Gl X "enumerate" := by rfl) (hK : X.K = K := by rfl) (hs : starEach [e] X.env = [(false, eval e X.env)] := by rfl) :
    PI X (.Tuple elts kk tpos) (.Call (.Name "enumerate" p) [e] [] pos) (iEnumA K ta) := by subst hK; exact pi_enumA hg hm ha hs
theorem piZ_K {ta : TA} {tpos : Pos} {elts : List Expr} {kk : Nat} (hm : X.mg "zip" = none) (ha : PA X [a, b] ta) (hg : Gl X "zip" := by rfl) (hK : X.K = K := by rfl) (hs : starEach [a, b] X.env = (false, eval a X.env) :: starEach [b] X.env := by rfl) (hpl : (backTo pos (starEach [b] X.env)).any (·.1) = false := by rfl) :
    PI X (.Tuple elts kk tpos) (.Call (.Name "zip" p) [a, b] [] pos) (RZ.iZipA K ta) := by subst hK; exact RZ.pi_zipA hg hm ha hs hpl
theorem star_K (he : PE X e te) (hr : PA X es t) (hK : X.K = K := by rfl) (hs : starEach (.Starred e p :: es) X.env = (true, eval e X.env) :: starEach es X.env := by rfl) : PA X (.Starred e p :: es) (StX.tStar K te t) := by subst hK; exact StX.pa_star he hr hs
theorem tup_K {es : List Expr} {k : Nat} {t : TGs} {n : Nat} (h : PGs X es t) (hc : X.calm = true := by rfl) (hK : X.K = K := by rfl)
    (hn : (assignEach es X.env).length = n := by rfl) (hst : (assignEach es X.env).findIdx? (·.1) = none := by rfl) : PG X (.Tuple es k pos) (gTup K n t) := by subst hK; exact pg_tup hc h hn hst
theorem unl_K {es : List Expr} {k : Nat} {t : TGs} {n : Nat} (h : PGs X es t) (hc : X.calm = true := by rfl) (hK : X.K = K := by rfl)
    (hn : (assignEach es X.env).length = n := by rfl) (hst : (assignEach es X.env).findIdx? (·.1) = none := by rfl) : PG X (.Tuple es k pos) (gUnl K n t) := by subst hK; exact pg_unl hc h hn hst
variable {CX : CXT} {j k : Nat} {ps : List Str} {sp : Sp} {x : Str} {E : XK} {apos : Pos} {m : Str}
theorem m0_K {mg : Str → Option Value} {pl : Sem Bool} (T : Txt K mg) (hm : m ∈ (["value", "at", "upto", "head", "cycle", "gain", "rate", "__eq__"] : List Str)) (O : OkM X.prog X.w K X.mg X.base CX j m ps sp) (hr : Room k X.A) (hx : Passes CX X E) (he : PE X o ta) (hj : j ≤ k := by decide) (hK : X.K = K := by rfl) (hmg : X.mg = mg := by rfl)
    (ht : eval (.Call (.Attribute o m apos) [] [] pos) X.env = (do
      let ov ← eval o X.env
      standAt apos.atName
      let (f, first) ← holding [ov] (getMethod ov m pl)
      callWith pos f first (backTo pos (starEach [] X.env)) (backToKw pos (keywordEach [] X.env))) := by rfl) :
    PE X (.Call (.Attribute o m apos) [] [] pos) (tMeth (rowC K) m sp [] E ta tNil) := by subst hK; subst hmg; exact pe_m0 T hm O hr hx he hj ht
theorem m1_K {mg : Str → Option Value} {pl : Sem Bool} (T : Txt K mg) (hm : m ∈ (["value", "at", "upto", "head", "cycle", "gain", "rate", "__eq__"] : List Str)) (O : OkM X.prog X.w K X.mg X.base CX j m ps sp) (hr : Room k X.A) (hx : Passes CX X E) (he : PE X o ta) (ha : PA X (e :: es) t) (hj : j ≤ k := by decide) (hK : X.K = K := by rfl) (hmg : X.mg = mg := by rfl)
    (hst : starEach (e :: es) X.env = (false, eval e X.env) :: starEach es X.env := by rfl) (hpl : (backTo pos (starEach es X.env)).any (·.1) = false := by rfl)
    (ht : eval (.Call (.Attribute o m apos) (e :: es) [] pos) X.env = (do
      let ov ← eval o X.env
      standAt apos.atName
      let (f, first) ← holding [ov] (getMethod ov m pl)
      callWith pos f first (backTo pos (starEach (e :: es) X.env)) (backToKw pos (keywordEach [] X.env))) := by rfl) :
    PE X (.Call (.Attribute o m apos) (e :: es) [] pos) (tMeth (rowC K) m sp [] E ta t) := by subst hK; subst hmg; exact pe_m1 T hm O hr hx he ha hj hst hpl ht
theorem row_K {mg : Str → Option Value} (T : Txt K mg) (O : OkM X.prog X.w K X.mg X.base CX j "__init__" ps sp) (hr : Room k X.A) (hx : Passes CX X E) (ha : PA X (e :: es) t) (hj : j + 1 ≤ k := by decide) (hK : X.K = K := by rfl) (hmg : X.mg = mg := by rfl) (hg : Gl X "Row" := by rfl)
    (he : starEach (e :: es) X.env = (false, eval e X.env) :: starEach es X.env := by rfl) (hpl : (backTo pos (starEach es X.env)).any (·.1) = false := by rfl) : PE X (.Call (.Name "Row" p) (e :: es) [] pos) (tMake (rowC K) sp [] E t) := by subst hK; subst hmg; exact pe_row T O hr hx ha hj hg he hpl
end
end K17
set_option Elab.async false
set_option linter.all false
set_option maxRecDepth 100000
set_option maxHeartbeats 4000000
/-! isinstance of a def as a value -/
namespace PySem
namespace FnIs
theorem ga_slot : Slot "function" "__getattribute__" "object.__getattribute__" := by
  refine .of (owner := "object") (n := "__getattribute__") ?_ (by decide +kernel) (by decide +kernel) (by decide +kernel) ?_ ?_
  · rw [typeLookup_type, builtinLookup_eq_fast]; kernel_rfl
  · first | exact .inl (by decide +kernel) | exact .inr (by decide +kernel)
  · rw [isSubtype_type]; kernel_rfl
theorem ga_entry : entryFor table "object.__getattribute__" = some Builtin.«object.__getattribute__» := by
  refine entryFor_of_tree ?_
  kernel_rfl
theorem ga_args (x y : Value) : argsOk "object.__getattribute__" ⟨[x, y], []⟩ := by
  unfold argsOk; kernel_rfl
theorem cls_found : typeLookup (.type "function") "__class__" = pure (some (.builtin "object.__class__")) := by
  rw [typeLookup_type, builtinLookup_eq_fast]; kernel_rfl
theorem cls_owner : isSubtype (.type "function") (.type (".".intercalate ("object.__class__".cutAt '.').dropLast)) = pure true := by
  rw [F.owner_object_class, isSubtype_type]; kernel_rfl
section
variable {prog : Program} {w : World} {A : Around} {h : Heap} {g : Array GenState} {d : Drawn} {t : Nat} {os : OsState} {a : Addr} {o : Obj}
theorem step1 {R : Result → Shared → Prop} (hx : h.get? a = some o) (hc : o.cls = .type "function") (hq : R (.ok (.ret (.type "function"))) ⟨h, g, d, t, os⟩) :
    codeAny (model prog w) A (.call (.builtin "getset_descriptor.__get__") ⟨[.builtin "object.__class__", .ref a, .type "function"], []⟩) R ⟨h, g, d, t, os⟩ := by
  have q1 : (⟨h, g, d, t, os⟩ : Shared).TypeIs (.ref a) "function" := ⟨o, hx, hc⟩
  have q2 : (⟨h, g, d, t, os⟩ : Shared).TypeIs (.builtin "object.__class__") "getset_descriptor" := F.typeOf_object_class
  have q3 := cls_owner
  refine codeAny_call_builtin F.slot_gs_get.plain F.entry_gs_get (F.slot_gs_get.check _ _ _ _ _ _ _ _ q2 (F.args_gs_get _ _ _) ?body)
  repeat (any_goals (first | assumption | wp_step))
  refine ⟨Code.quiet_builtin _ (by decide +kernel), codeAny_builtin F.entry_object_class ?inner⟩
  repeat (any_goals (first | assumption | wp_step))
theorem step2 {E : Value → Shared → Prop} {tk : Tok} {Q : Fin → Shared → Prop} (hx : h.get? a = some o) (hc : o.cls = .type "function") (hq : Q (.done (.ret (.type "function"))) ⟨h, g, d, t, os⟩) :
    wpAny (model prog w) A (Builtin.«object.__getattribute__» ⟨[.ref a, .str "__class__" tk], []⟩) Q E ⟨h, g, d, t, os⟩ := by
  have q1 : (⟨h, g, d, t, os⟩ : Shared).TypeIs (.ref a) "function" := ⟨o, hx, hc⟩
  have q2 : (⟨h, g, d, t, os⟩ : Shared).TypeIs (.builtin "object.__class__") "getset_descriptor" := F.typeOf_object_class
  have q3 := cls_found
  have q4 := F.typeOf_object_class
  have q5 := F.slot_gs_get.lookup
  have q6 := F.slot_gs_set.lookup
  repeat (any_goals (first | assumption | wp_step))
  refine step1 hx hc ?here
  repeat (any_goals (first | assumption | wp_step))
theorem step3 {tk : Tok} {R : Result → Shared → Prop} (hx : h.get? a = some o) (hc : o.cls = .type "function") (hq : R (.ok (.ret (.type "function"))) ⟨h, g, d, t, os⟩) :
    codeAny (model prog w) A (.call (.builtin "object.__getattribute__") ⟨[.ref a, .str "__class__" tk], []⟩) R ⟨h, g, d, t, os⟩ := by
  have q1 : (⟨h, g, d, t, os⟩ : Shared).TypeIs (.ref a) "function" := ⟨o, hx, hc⟩
  exact codeAny_call_builtin ga_slot.plain ga_entry (ga_slot.check _ _ _ _ _ _ _ _ q1 (ga_args _ _) (step2 hx hc hq))
theorem step4 {E : Value → Shared → Prop} {tk : Tok} {Q : Value → Shared → Prop} (hx : h.get? a = some o) (hc : o.cls = .type "function") (hq : Q (.type "function") ⟨h, g, d, t, os⟩) : wpAny (model prog w) A (getAttrBy (.ref a) (.str "__class__" tk) false) Q E ⟨h, g, d, t, os⟩ := by
  have q1 : (⟨h, g, d, t, os⟩ : Shared).TypeIs (.ref a) "function" := ⟨o, hx, hc⟩
  have q2 := ga_slot.lookup
  have q3 := ga_slot.bind (.ref a)
  repeat (any_goals (first | assumption | wp_step))
  refine step3 hx hc ?here
  repeat (any_goals (first | assumption | wp_step))
theorem fn_cls {E : Value → Shared → Prop} {Q : Option Value → Shared → Prop} (hx : h.get? a = some o) (hc : o.cls = .type "function") (hq : Q (some (.type "function")) ⟨h, g, d, t + 1, os⟩) : wpAny (model prog w) A (getAttr? (.ref a) "__class__") Q E ⟨h, g, d, t, os⟩ := by
  unfold getAttr? getAttrBy?
  repeat (any_goals (first | assumption | with_reducible apply step4 hx hc | wp_step))
end
theorem kit_fn {K : PySem.W.Frag} {a : Addr} : PySem.W.KitX K (.ref a) (.type "function") (PySem.W.KitAt a "function") := by
  refine PySem.W.kitx_of PySem.W.kitAt_ty (fun {_ _ _ _ _ s} p k => ?_)
  obtain ⟨h, g, d, t, os⟩ := s
  obtain ⟨o, e, c⟩ := p
  exact fn_cls e c k
end FnIs
end PySem
set_option Elab.async false
set_option linter.all false
set_option maxRecDepth 100000
set_option maxHeartbeats 4000000
/-! != by an own == -/
namespace PySem.W
section
variable {prog : Program} {w : World} {A : Around} {E : Value → Shared → Prop} {s : Shared} {K : Frag} {x y C f : Addr} {ox : Obj} {od : Option Obj} {name : Str}
theorem ifBound_blt {M : Model} {T id : String} {args : List Value} {Q : Option Value → Shared → Prop} (S : Slot T name id) (X : K.In s.heap) (I : InstAt s.heap x ox C od) (hs : findIn K (.ref C) name = some (some (.builtin id)))
    (h : wpAny M A (call (.builtin id) (.ref x :: args)) (fun v => Q (some v)) E s) : wpAny M A (callSpecialIfBound? (.ref x) name args) Q E s := by
  simp only [callSpecialIfBound?, bindSpecialIfBound?]
  refine wpAny_holding (wpAny_bind (wpAny_bind (wpAny_bind (I.type.here ((looks_findIn X hs).here ?_)))))
  simp only [S.bind]
  refine wpAny_bind (wpAny_askSetting (wpAny_ite ?_))
  have fin : wpAny M A (call (.builtin id) ([.ref x] ++ args) >>= fun v => pure (some v)) Q E s :=
    wpAny_bind (wpAny_mono h (fun v s' h' => wpAny_pure h') fun _ _ h' => h')
  split
  · exact wpAny_bind (wpAny_pure (wpAny_pure fin))
  · exact wpAny_tryCatch (wpAny_bind (wpAny_pure (wpAny_pure fin)))
theorem slot_ne : Slot "object" "__ne__" "object.__ne__" :=
  .of (owner := "object") (n := "__ne__") (by rw [typeLookup_type, builtinLookup_eq_fast]; kernel_rfl) (by decide +kernel) (by decide +kernel) (by decide +kernel)
    (by first | exact .inl (by decide +kernel) | exact .inr (by decide +kernel)) (by rw [isSubtype_type]; kernel_rfl)
theorem ne_body (X : K.In s.heap) (I : InstAt s.heap x ox C od) (hs : findIn K (.ref C) "__eq__" = some (some (.ref f))) (hf : isFn K (.ref f) = true) (hu : A.units < cLine) {Q : Fin → Shared → Prop}
    (hcall : wpAny (model prog w) A (call (.ref f) [.ref x, .ref y]) (fun v s' => v = .bool true ∧ Q (.done (.ret (.bool false))) s') E s) :
    wpAny (model prog w) A (Builtin.«object.__ne__» ⟨[.ref x, .ref y], []⟩) Q E s := by
  unfold Builtin.«object.__ne__»
  repeat (first
    | with_reducible refine wpAny_cRoomFor hu ?_
    | (refine wpAny_bind (m := callSpecialIfBound? (.ref x) (Str.ofString "__eq__") [.ref y])
        (ifBound_K X I hs hf (wpAny_mono hcall (fun r s' hr => by
          obtain ⟨rfl, hq⟩ := hr
          repeat (first | exact hq | exact wpAny_pure hq | exact wpAny_truthy_bool hq | (refine wpAny_bind (m := truthy (.bool _)) (wpAny_truthy_bool ?_)) | wp_step)) fun _ _ e => e)))
    | wp_step)
theorem ne_K {Q : Value → Shared → Prop} {oy : Obj} {ody : Option Obj} (X : K.In s.heap) (I : InstAt s.heap x ox C od) (J : InstAt s.heap y oy C ody) (hs : findIn K (.ref C) "__eq__" = some (some (.ref f))) (hf : isFn K (.ref f) = true)
    (hne : findIn K (.ref C) "__ne__" = some (some (.builtin "object.__ne__"))) (hm : mroIn K C (.type "object") = some true) (hu : A.units + 1 < cLine)
    (hcall : wpAny (model prog w) A.in1 (call (.ref f) [.ref x, .ref y]) (fun v s' => v = .bool true ∧ Q (.bool false) s') E s) : wpAny (model prog w) A (richCompare .NotEq (.ref x) (.ref y)) Q E s := by
  have one : wpAny (model prog w) A (tryCompare (.ref x) (cmpInfo .NotEq).2.1 (.ref y)) (fun r s' => r = some (.bool false) ∧ Q (.bool false) s') E s := by
    unfold tryCompare
    refine wpAny_bind (ifBound_blt slot_ne X I hne (wpAny_call (codeAny_call_builtin slot_ne.plain F.cmpEntry_ne (check_slot F.cmpKind_ne F.cmpSplit_ne (I.type.andThen (looks_mroIn X hm)) (F.cmpArgs_ne _ _)
      (ne_body (A := A.in1) X I hs hf (by show A.units + 1 < cLine; exact hu) (wpAny_mono hcall (fun v s' hv => ?_) fun _ _ e => e))))))
    obtain ⟨rfl, hq⟩ := hv
    first | exact ⟨rfl, wpAny_pure ⟨rfl, hq⟩⟩ | exact ⟨rfl, wpAny_pure (wpAny_pure ⟨rfl, hq⟩)⟩ | exact ⟨rfl, ⟨rfl, hq⟩⟩
  unfold richCompare
  simp only [oneThing_ref]
  refine wpAny_holding (wpAny_bind (wpAny_cRoomFor (Nat.lt_of_succ_lt hu) ?_))
  refine wpAny_bind (I.type.here (wpAny_bind (J.type.here ?_)))
  rw [show (Value.ref C != Value.ref C) = false from by simp]
  simp only [Bool.false_eq_true, if_false]
  refine wpAny_bind (wpAny_pure ?_)
  simp only [Bool.false_eq_true, if_false]
  refine wpAny_bind (wpAny_mono one (fun r s' z => ?_) fun _ _ e => e)
  obtain ⟨rfl, hq⟩ := z
  first | exact wpAny_pure hq | exact wpAny_pure (wpAny_pure hq)
end
end PySem.W
namespace L2
open PySem PySem.Spec PyProof.Rows
/-- x != y of two that are equal -/
def rNeG (D : Eqv) : R2 := fun x y H Q => D x y H ∧ ∀ H', Ext H H' → Q (.bl false) H'
section
variable {X : Cx} {n : Nat}
theorem op_neG {CX : CXT} {C f : Addr} {fd : FuncData} {ps : List Str} {R : Addr → Addr → Hp → Prop} {E : XK} (F : FnOk X.prog X.w X.K X.mg X.base CX n f fd ps (spEq R))
    (hs : PySem.W.findIn X.K (.ref C) "__eq__" = some (some (.ref f))) (hf : PySem.W.isFn X.K (.ref f) = true) (hne : PySem.W.findIn X.K (.ref C) "__ne__" = some (some (.builtin "object.__ne__"))) (hm : PySem.W.mroIn X.K C (.type "object") = some true)
    (hb : Binds X.K fd ps []) (hx : Passes CX X E) (room : Room (n + 1) X.A) : OpR X (compareOp .NotEq) (rNeG (DIns C R)) := by
  intro pins s σ H x y u v Q I rx ry hq
  obtain ⟨⟨a, b, dx, dy, fs, gs, rfl, rfl, ha, hb', hr⟩, q⟩ := hq
  cases rx
  cases ry
  obtain ⟨mA, J, _⟩ := ins_get I.hok ha
  obtain ⟨mB, J', _⟩ := ins_get I.hok hb'
  obtain ⟨od, J, _⟩ := J.look
  obtain ⟨od', J', _⟩ := J'.look
  show wpAny (model X.prog X.w) X.A (richCompare .NotEq (.ref a) (.ref b)) (EP X pins σ Q) X.xe s
  refine PySem.W.ne_K I.kIn J J' hs hf hne hm (by have := room.units; omega) ?_
  have hsp : spEq R [.ref a, .ref b] H (fun v H' => v = .bl true ∧ Ext H H') E := ⟨a, b, rfl, hr, fun H' e => ⟨rfl, e⟩⟩
  have e0 : Env0 X.prog X.w X.K X.mg X.base X.A.in1 X.stack s H := by
    have e := I.env0
    exact ⟨e.frames, e.mod, e.bs, e.bsz, e.funs, e.frf, e.hok, e.bare⟩
  have hl := F.len _ _ _ _ hsp
  have r2 : Vals [V.ref a, V.ref b] [Value.ref a, Value.ref b] := .cons rfl (.cons rfl .nil)
  refine wpAny_call (codeAny_mono (F.run X.A.in1 X.stack s H ⟨[.ref a, .ref b], []⟩ [.ref a, .ref b] [.ref a, .ref b] _ E room.in1 e0 (by
    have := hb s [.ref a, .ref b] I.kIn (by simpa using hl)
    simpa using this) r2 hsp) fun r s' hq => ?_)
  cases r with
  | error e => exact hx pins σ H s e s' I hq
  | ok fl =>
    cases fl with
    | ret w =>
      obtain ⟨z, H', I', rz, ez, ex⟩ := I.after hq
      subst ez
      cases rz
      exact ⟨rfl, .bl false, H', I', rfl, q H' ex⟩
    | next => exact False.elim hq
    | brk => exact False.elim hq
    | cont => exact False.elim hq
end
end L2
set_option Elab.async false
set_option linter.all false
set_option maxRecDepth 100000
set_option maxHeartbeats 4000000
/-! BadRow(thing): an exception whose own __init__ says super().__init__(thing) and self.thing = thing -/
namespace PySem
namespace BadX
open PySem.W PySem.Calls PyProof.Rows PySem.HandSPX
/-! ### the text of __init__ -/
abbrev iSt : Stmt := L2.inClass (K17.topS 8) 0
abbrev iA : Arguments := L2.defArgs iSt
abbrev iB : List Stmt := L2.defBody iSt
abbrev iS : Scope := L2.defScope iSt
/-- what the written part says of BadRow, at C, and of its __init__, at fI -/
structure BadTxt (P : Program) (K : Frag) (mg : Str → Option Value) (C fI : Addr) : Prop where
  gC : mg "BadRow" = some (.ref C)
  cls : ∃ nm q N bs bm sn sub ab col dd k0 k1 k2 k3 k5, K.lookup C = some (excClassObj nm q C N bs bm true sn sub ab col dd k0 k1 k2 k3 k5 "ValueError.__new__") ∧ refsVE bm = true ∧ alongIn K "__init__" bm = some (some (.builtin "ValueError.__init__"))
  sa : findIn K (.ref C) "__setattr__" = some (some (.builtin "object.__setattr__"))
  ga : findIn K (.ref C) "__getattribute__" = some (some (.builtin "BaseException.__getattribute__"))
  gg : findIn K (.ref C) "__getattr__" = some none
  noN : findIn K (.ref C) "thing" = some none
  iC : findIn K (.ref C) "__init__" = some (some (.ref fI))
  tC : typeIn K (.ref fI) = some (.type "function")
  kC : keepIn K (.ref C) = true
  exC : subIn K (.ref C) (.type "BaseException") = some true
  veC : subIn K (.ref C) (.type "ValueError") = some true
  mC : mroIn K C (.ref C) = some true
  tyC : typeIn K (.ref C) = some (.type "type")
  hdC : hasDictIn K C = true
  te : exmOne K (.ref C) (.ref C) = some true
  opq : nsIn K cStatics "thirdparty.any" = some none
  sup : mg "super" = none
  htop : (P.main.scope.names.lookup ("super" : Str)).isSome = false
  fn : ∃ (oc : Value) (od : Option Addr) (doc pm : Value) (an : Option Addr) (cda cc : Addr) (ct : Value) (osl : Array (Option Value)),
    K.lookup fI = some ⟨oc, od, .func (ksFn "__init__" "BadRow.__init__" iA iB iS .none .none doc pm an (.ref cda) ct cc), osl⟩ ∧ codeIn K (.ref cda) "BadRow.__init__" = true ∧
      (∃ (ccl : Value) (cdd : Option Addr) (vs : Array Value) (ccs : Array (Option Value)) (file : Str) (tf : Tok), K.lookup cda = some ⟨ccl, cdd, .fields vs, ccs⟩ ∧ vs[2]? = some (.str file tf) ∧ ((P.main.file : Str) == file) = true) ∧
      (∃ (cl : Value) (cld : Option Addr) (csl : Array (Option Value)), K.lookup cc = some ⟨cl, cld, .cell (some (.ref C)), csl⟩)
/-- what __init__ leaves of a fresh exception at x -/
structure InitEnd (h h' : Heap) (x C dx t1 : Addr) (v : Value) : Prop where
  keep : ∀ b o, b ≠ x → h.get? b = some o → h'.get? b = some o
  obj : h'.get? x = some { cls := .ref C, dict := some dx, data := .fields #[.ref t1, .none, .none, .none, .bool false, .none] }
  dbig : h.objs.size ≤ dx
  dne : dx ≠ x
  ns : h'.Ns1 dx (fun y => if y = "thing" then some v else none)
/-- a made BadRow -/
structure OwnMade (h h' : Heap) (e C d : Addr) (v : Value) : Prop where
  keep : ∀ b o, h.get? b = some o → h'.get? b = some o
  new : h.objs.size ≤ e
  obj : ∃ oe vs, h'.get? e = some oe ∧ oe.cls = .ref C ∧ oe.dict = some d ∧ oe.data = .fields vs ∧ vs[1]? = some .none
  dbig : h.objs.size ≤ d
  dne : d ≠ e
  ns : h'.Ns1 d (fun y => if y = "thing" then some v else none)
theorem one_size (v : Value) : [v].length ≤ sizeLine := by
  rw [sizeLine_eq]
  exact (by decide : 1 ≤ 16777216)
section
variable {P : Program} {w : World} {A : Around} {E : Value → Shared → Prop} {R : Result → Shared → Prop} {s : Shared} {K : Frag} {mg : Str → Option Value} {C fI : Addr}
/-- ValueError.__init__ bound to the exception, called -/
theorem call_bv {h : Heap} {g : Array GenState} {d : Drawn} {t : Nat} {os : OsState} {nm q : Str} {N u e t0 : Addr} {bs bm : List Value} {hdct : Bool} {sn : List Str} {sub : List Value} {ab : Bool} {col : Option Bool} {dd : Option Addr} {k0 k1 k2 k3 k5 : Option Value} {rest : List Value} {Q : Value → Shared → Prop}
    (hC : h.get? C = some (excClassObj nm q C N bs bm hdct sn sub ab col dd k0 k1 k2 k3 k5 "ValueError.__new__")) (he : h.get? e = some (excO C t0)) (hu : h.get? u = some (kxs_mw "ValueError.__init__" e)) (hrest : rest.length ≤ sizeLine)
    (hq : ∀ h' t1, (∀ b o, b ≠ e → h.get? b = some o → h'.get? b = some o) → h'.get? e = some (excO C t1) → Q .none ⟨h', g, d, t, os⟩) :
    wpAny (model P w) A (call (.ref u) rest) Q E ⟨h, g, d, t, os⟩ := by
  refine wpAny_call (codeAny_of_tree ?_)
  show wpAny _ A.in1 (callAny (.ref u) ⟨rest, []⟩) _ _ _
  simp only [callAny]
  refine wpAny_bind (wpAny_load hu ?_)
  simp only [kxs_mw, show (Value.type "method-wrapper" == Value.type "method" || Value.type "method-wrapper" == Value.type "builtin_function_or_method" || Value.type "method-wrapper" == Value.type "method-wrapper") = true by decide, if_true]
  refine W.KFB.if_so (by decide) ?_
  refine wpAny_bind (ESX.check_bound F.excBase_ValueError hC he rfl ?_)
  refine wpAny_bind (wpAny_pure (wpAny_pure ?_))
  refine ⟨Code.quiet_builtin _ (by decide +kernel), codeAny_builtin F.excBase_ValueError.initEntry ?_⟩
  rw [Around.under_plainId F.excBase_ValueError.init.plain _]
  wp_walk
  refine hq _ h.objs.size (fun b o hb ho => ?_) ?_
  · rw [Heap.get?_update_other _ _ (Ne.symm hb)]
    exact Heap.get?_push_of_some _ ho
  · rw [Heap.get?_update_self _ (Heap.get?_push_of_some _ he) rfl]
    rfl
theorem bad_init {mb : Str → Option Value} (T : BadTxt P K mg C fI) {x t0 : Addr} {v : Value} (X : K.In s.heap) (hg : s.heap.Ns mainGlobals mg) (hb : s.heap.Ns builtinsNs mb) (hbs : mb "super" = some (.type "super")) (hlim : s.heap.NoLimit) (hx : s.heap.get? x = some (excO C t0)) (hnx : K.lookup x = none)
    (hroom : A.depth < recursionLimit) (hq : ∀ h' tk dx t1, InitEnd s.heap h' x C dx t1 v → R (.ok (.ret .none)) { s with heap := h', toks := tk }) :
    codeAny (model P w) A (.call (.ref fI) ⟨[.ref x, v], []⟩) R s := by
  obtain ⟨oc, od, doc, pm, an, cda, cc, ct, osl, ho, hcd, ⟨ccl, cdd, vs, ccs, file, tf, hcode, hvs, hfile⟩, cl, cld, csl, hcell⟩ := T.fn
  obtain ⟨nm, q, N, bs, bm, sn, sub, ab, col, dd, k0, k1, k2, k3, k5, hC, hbm, halong⟩ := T.cls
  have hcl : clsIn K C = some { name := nm, bases := bs, mro := .ref C :: bm, ns := N, qualname := q, hasDict := true, slotNames := sn, subclasses := sub, abstract := ab, collection := col, hasDel := false } := by unfold clsIn; rw [hC] <;> rfl
  have hxC : x ≠ C := fun z => by rw [z, hC] at hnx; cases hnx
  refine ks_codeAny_call_defAt (fd := ksFn "__init__" "BadRow.__init__" iA iB iS .none .none doc pm an (.ref cda) ct cc) (body := iB) (binds := [("self", .ref x), ("thing", v)])
    hroom (X _ _ ho) rfl hlim (codeRec_of X hcd) rfl (BindsTo.of_eq (by first | rfl | with_unfolding_all rfl)) (by show ∀ x ∈ iS.names, x.2 ≠ NameKind.cell; decide +kernel) (by intro y hy; simp at hy; rcases hy with rfl | rfl <;> rfl) (fun h₁ hns k => ?_)
  have hx₁ := k _ _ hx
  have X₁ : K.In h₁ := X.keeps k
  have hs : (fun y => ([(("self" : Str), Value.ref x), ("thing", v)] : List (Str × Value)).reverse.lookup y) ("self" : Str) = some (.ref x) := by first | rfl | with_unfolding_all rfl | kernel_rfl
  have ht : (fun y => ([(("self" : Str), Value.ref x), ("thing", v)] : List (Str × Value)).reverse.lookup y) ("thing" : Str) = some v := by first | rfl | with_unfolding_all rfl | kernel_rfl
  show wpAt (model P w) (A.deeper (ksEnv "BadRow.__init__" iS s.heap.objs.size fI (.ref cda) cc)) (.func iB (ksEnv "BadRow.__init__" iS s.heap.objs.size fI (.ref cda) cc)) (execs iB (ksEnv "BadRow.__init__" iS s.heap.objs.size fI (.ref cda) cc)) _ _ _
  refine ks_wpAt_execs_cons (ks_wpAt_Expr_any (ks_wpAt_MethodCall ?_))
  refine ks_wpAt_super_base (env := ksEnv "BadRow.__init__" iS s.heap.objs.size fI (.ref cda) cc) rfl rfl rfl rfl (k _ _ (X _ _ ho)) rfl rfl rfl (k _ _ (X _ _ hcode)) rfl hvs hfile T.htop ?_
  refine ks_loadName_global rfl rfl (loadGlobal_builtin (env := ksEnv "BadRow.__init__" iS s.heap.objs.size fI (.ref cda) cc) (hg.keeps k) T.sup (hb.keeps k) hbs ⟨rfl, ?_⟩)
  refine wpAny_loadName_free rfl rfl rfl ⟨_, k _ _ (X _ _ hcell), rfl⟩ ?_
  refine wpAny_loadName_local rfl rfl hns hs ?_
  refine ks_wpAny_isType_cls (k _ _ (X _ _ hC)) rfl ⟨rfl, ?_⟩
  refine ks_wpAny_call_super (D := C) (x := x) (C := C) (k _ _ (X _ _ hC)) rfl hx₁ rfl (fun c z => by cases z) (looks_mroIn X₁ T.mC) (fun h₂ e k₂ => ?_)
  have X₂ : K.In h₂ := X₁.keeps k₂
  have I₂ : InstAt h₂ x (excO C t0) C none := ⟨k₂ _ _ hx₁, rfl, rfl, trivial⟩
  refine kxs_getMethod kxs_ValueError e (looks_opaque X₂ T.opq) (l₀ := .ref C :: bm) ((looks_clsIn X₂ hcl).andThen .now) (ESX.drop_own C bm) X₂ halong (I₂.type.andThen (looks_subIn X₂ T.veC)) hxC rfl ?_
  have k₃ : ∀ b o, h₂.get? b = some o → (h₂.push (kxs_mw "ValueError.__init__" x)).get? b = some o := fun b o z => Heap.get?_push_of_some _ z
  have hu : (h₂.push (kxs_mw "ValueError.__init__" x)).get? h₂.objs.size = some (kxs_mw "ValueError.__init__" x) := Heap.get?_push_at rfl rfl
  refine kxs_callWith (i := "ValueError.__init__") (x := x) (by rfl) ?_
  refine evalArgs_plain (PyProof.Rows.spliced_more (ESX.ldL (v := v) ((hns.keeps k₂).keeps k₃) ht (PyProof.Rows.spliced_none ⟨hu, ?_⟩)))
  refine call_bv (k₃ _ _ (k₂ _ _ (k _ _ (X _ _ hC)))) (k₃ _ _ (k₂ _ _ hx₁)) hu (one_size v) (fun h₄ t1 k₄ hx₄ => ?_)
  have kk : ∀ b o, b ≠ x → s.heap.get? b = some o → h₄.get? b = some o := fun b o hb z => k₄ b o hb (k₃ _ _ (k₂ _ _ (k _ _ z)))
  have X₄ : K.In h₄ := fun a o z => kk a o (fun y => by rw [y, hnx] at z; cases z) (X a o z)
  have hxL : s.heap.objs.size ≠ x := Nat.ne_of_gt (Heap.lt_size hx)
  have hns₄ : h₄.Ns s.heap.objs.size (fun y => ([(("self" : Str), Value.ref x), ("thing", v)] : List (Str × Value)).reverse.lookup y) := by
    obtain ⟨oL, es, ep, hL, r⟩ := (hns.keeps k₂).keeps k₃
    exact ⟨oL, es, ep, k₄ _ _ hxL hL, r⟩
  show wpAt _ _ _ (execs _ _) _ _ _
  refine wpAt_of_wpAny (wpAny_execs_cons (plainObj_wpAny_Assign_Attribute ?_))
  refine ESX.ldL (v := v) hns₄ ht (ESX.ldL (v := .ref x) hns₄ hs ?_)
  refine set_plain X₄ (ox := excO C t1) (od := none) ⟨hx₄, rfl, rfl, trivial⟩ T.sa ?_
  refine exc_osa X₄ hx₄ hcl (show refsVE (.ref C :: bm) = true from hbm) rfl T.noN (fun h₅ tk₅ dx k₅ dn dne hx₅ hn₅ => ?_)
  show wpAny _ _ (execs _ _) _ _ _
  have z4 : s.heap.objs.size < h₄.objs.size := hns₄.lt
  exact wpAny_execs_nil (hq h₅ tk₅ dx t1 ⟨fun b o hb e => k₅ b o hb (kk b o hb e), hx₅, Nat.le_of_lt (Nat.lt_of_lt_of_le z4 dn), dne, hn₅⟩)
theorem bad_made {mb : Str → Option Value} (T : BadTxt P K mg C fI) {v : Value} (X : K.In s.heap) (hg : s.heap.Ns mainGlobals mg) (hb : s.heap.Ns builtinsNs mb) (hbs : mb "super" = some (.type "super")) (hlim : s.heap.NoLimit) (hroom : A.depth + 1 < recursionLimit)
    (hq : ∀ h' tk e d, OwnMade s.heap h' e C d v → R (.ok (.ret (.ref e))) { s with heap := h', toks := tk }) :
    codeAny (model P w) A (.call (.ref C) ⟨[v], []⟩) R s := by
  obtain ⟨nm, q, N, bs, bm, sn, sub, ab, col, dd, k0, k1, k2, k3, k5, hC, hbm, _⟩ := T.cls
  obtain ⟨hp, g, dr, tk, os⟩ := s
  have k : ∀ b o, hp.get? b = some o → ((hp.push (kdv_tup [v])).push (excO C hp.objs.size)).get? b = some o := fun b o e => Heap.get?_push_of_some _ (Heap.get?_push_of_some _ e)
  have hget : ((hp.push (kdv_tup [v])).push (excO C hp.objs.size)).get? (hp.objs.size + 1) = some (excO C hp.objs.size) := by heap_get
  have hnx : K.lookup (hp.objs.size + 1) = none := by
    cases e : K.lookup (hp.objs.size + 1) with
    | none => rfl
    | some o =>
      have z : hp.get? (hp.objs.size + 1) = some o := X _ _ e
      exact absurd (Nat.lt_of_succ_lt (Heap.lt_size z)) (Nat.lt_irrefl _)
  refine call_own F.excBase_ValueError (fun X => refsVE_contains X bm hbm) (X _ _ hC) (looks_findIn X T.iC) (fun self => bind_fn X self T.tC) (one_size v) ?_
  refine bad_init (s := ⟨(hp.push (kdv_tup [v])).push (excO C hp.objs.size), g, dr, tk, os⟩) T (X.keeps k) (hg.keeps k) (hb.keeps k) hbs (hlim.keeps k) hget hnx ?_ fun h' tk' dx t1 ⟨k', hx, dn, dne, hns⟩ => ?_
  · show A.depth + 1 < recursionLimit
    exact hroom
  · have old : ∀ b o, hp.get? b = some o → h'.get? b = some o := fun b o e => k' b o (Nat.ne_of_lt (Nat.lt_succ_of_lt (Heap.lt_size e))) (k b o e)
    have z : hp.objs.size + 1 + 1 ≤ dx := by
      first
        | (simpa only [Heap.size_push] using dn)
        | exact dn
        | (have q := dn; rw [Heap.size_push, Heap.size_push] at q; exact q)
    exact ⟨rfl, hq h' tk' (hp.objs.size + 1) dx ⟨old, Nat.le_succ _, ⟨_, _, hx, rfl, rfl, rfl, rfl⟩, Nat.le_trans (Nat.le_trans (Nat.le_succ _) (Nat.le_succ _)) z, dne, hns⟩⟩
end
end BadX
end PySem
namespace L2
open PySem PySem.Spec PyProof.Rows
theorem relO_bad {v : V} {v' : Value} (r : RelV v v') (f : Str) : RelO (List.lookup f [(("thing" : Str), v)]) (if f = "thing" then some v' else none) := by
  by_cases hw : f = "thing"
  · subst hw
    rw [if_pos rfl]
    have q : List.lookup ("thing" : Str) [(("thing" : Str), v)] = some v := by simp [List.lookup]
    rw [q]
    exact r
  · rw [if_neg hw]
    have qw : (f == ("thing" : Str)) = false := by simpa using hw
    have q2 : List.lookup f [(("thing" : Str), v)] = none := by simp [List.lookup, qw]
    rw [q2]
    trivial
section
variable {X : Cx} {C fI : Addr}
/-- BadRow(e) -/
def tMkBad (C : Addr) (ta : TA) : St → Hp → XK → Prop := fun σ H Q => ta σ H fun vs H1 => ∃ v, vs = [v] ∧ ∀ d, H1 d = none → Q (.ref C) (some d) (upd H1 d (.xd [(("thing" : Str), v)]))
theorem pmk_bad {a : Expr} {ta : TA} {p pos : Pos} {k : Nat} (T : PySem.BadX.BadTxt X.prog X.K X.mg C fI) (hr : Room k X.A) (ha : PA X [a] ta) (hg : Gl X "BadRow" := by rfl)
    (he : starEach (a :: []) X.env = (false, eval a X.env) :: starEach [] X.env := by rfl) (hpl : (backTo pos (starEach [] X.env)).any (·.1) = false := by rfl) :
    PMk X (.Call (.Name "BadRow" p) [a] [] pos) (tMkBad C ta) := by
  intro pins s σ H Q I h
  refine wpAny_Call_Name_kw (ld_glob I hg T.gC ?_)
  refine PySem.W.callWith_K (h₀ := X.base) I.ok.mod.kin T.kC (thn (ha.run pos pins s σ H _ I h) fun us s1 hh => ?_) he hpl
  obtain ⟨vs, H1, I1, r1, v, ev, q1⟩ := hh
  subst ev
  refine ⟨I1.kIn, ?_⟩
  cases r1 with
  | cons rv rn =>
    rename_i v' us'
    cases rn
    show wpAny _ _ (call (.ref C) [v']) _ _ _
    have hlim := I1.nolimit
    obtain ⟨mb, b1, b2⟩ := I1.mod.blt
    have hgl : s1.heap.Ns mainGlobals X.mg := I1.mod.glob.keeps I1.bk
    have hbl := b1.keeps I1.bk
    have hbs : mb "super" = some (.type "super") := (b2 "super" (by decide)).trans (by first | boot_by_name | rfl | kernel_rfl)
    obtain ⟨hp, g, dr, tk, os⟩ := s1
    refine wpAny_call (PySem.BadX.bad_made T I1.kIn hgl hbl hbs hlim (by have := hr.dp; omega) fun h' tk' e d M => ?_)
    show MkP X pins σ Q (.ref e) ⟨h', g, dr, tk', os⟩
    obtain ⟨oe, fv, hoe, hc, hd, hdat, h1⟩ := M.obj
    have hns := M.ns
    obtain ⟨G', g1, g2⟩ := restrict h' fun b => decide (b ≠ e)
    have gk : ∀ b, b ≠ e → G'.get? b = h'.get? b := fun b hb => g1 b (decide_eq_true hb)
    have ge : G'.get? e = none := g2 e (by simp)
    have old : ∀ b o, hp.get? b = some o → G'.get? b = some o := fun b o q => (gk b (Nat.ne_of_lt (Nat.lt_of_lt_of_le (Heap.lt_size q) M.new))).trans (M.keep b o q)
    have ob : ObjOk X.prog X.w (upd H1 d (.xd [(("thing" : Str), v)])) G' d (.xd [(("thing" : Str), v)]) :=
      ⟨_, hns.at (fun o q => (gk d M.dne).trans q), fun f => relO_bad rv f⟩
    have J : Inv X pins σ (upd H1 d (.xd [(("thing" : Str), v)])) ⟨G', g, dr, tk', os⟩ := I1.laid (t' := tk') old M.dbig ob
    refine ⟨e, oe, fv, ⟨G', g, dr, tk', os⟩, _, .ref C, some d, rfl, J, fun b o q => ?_, ge, hoe, ⟨hc, hd⟩, hdat, h1, ?_, rfl, I1.bare, raises_own T.exC T.tyC, q1 d (I1.hok.fresh M.dbig)⟩
    · by_cases hb : b = e
      · have q' : G'.get? b = some o := q
        rw [hb, ge] at q'; cases q'
      · exact (gk b hb).symm.trans q
    · rw [upd_ne (Ne.symm M.dne)]
      exact I1.hok.fresh M.new
/-- raise BadRow(e) -/
def tRaiseBad (C : Addr) (W : WX) (ta : TA) : TS := fun _ σ H => tMkBad C ta σ H fun cls d H' => W cls d σ H'
theorem ps_raiseBad {a : Expr} {ta : TA} {W : WX} {p pos pos2 : Pos} {k : Nat} (hc : X.calm = true) (T : PySem.BadX.BadTxt X.prog X.K X.mg C fI) (hr : Room k X.A) (tk : Takes X W) (ha : PA X [a] ta) (hg : Gl X "BadRow" := by rfl)
    (he : starEach (a :: []) X.env = (false, eval a X.env) :: starEach [] X.env := by rfl) (hpl : (backTo pos (starEach [] X.env)).any (·.1) = false := by rfl) :
    PS X (.Raise (some (.Call (.Name "BadRow" p) [a] [] pos)) none pos2) (tRaiseBad C W ta) := ps_raise hc tk (pmk_bad T hr ha hg he hpl)
/-- error.thing, error the exception that the suite holds (at a; its class cls, its dict d) -/
def tByBad (C : Addr) (a : Addr) (cls : Value) (d : Option Addr) (te : TE) : TE := fun σ H Q => te σ H fun x H1 => x = .ref a ∧ cls = .ref C ∧ ∃ (dd : Addr) (v : V), d = some dd ∧ H1 dd = some (.xd [(("thing" : Str), v)]) ∧ Q v H1
theorem pe_byBad {a : Addr} {oe : Obj} {cls : Value} {d : Option Addr} {pn : List (Addr × Obj)} {e : Expr} {te : TE} {pos : Pos} (T : PySem.BadX.BadTxt X.prog X.K X.mg C fI) (hz : Zc cls d oe) (hf : ∃ vs, oe.data = .fields vs) (he : PE (X.suite a ((a, oe) :: pn)) e te)
    (hb : attributeBase e "thing" X.env (eval e X.env) = eval e X.env := by rfl) :
    PE (X.suite a ((a, oe) :: pn)) (.Attribute e "thing" pos) (tByBad C a cls d te) := by
  refine ⟨fun pins s σ H Q I h => ?_⟩
  refine attr_of hb (thn (he.run pins s σ H _ I h) fun u s1 hh => ?_)
  obtain ⟨x, H1, I1, rx, ex, ec, dd, v, ed, ea, q⟩ := hh
  subst ex
  obtain rfl : u = Value.ref a := rx
  subst ec
  subst ed
  obtain ⟨ha, _⟩ := I1.pin (a, oe) (List.mem_append_left _ List.mem_cons_self)
  obtain ⟨vs, hd⟩ := hf
  have hx : ObjOk X.prog X.w H1 s1.heap dd (.xd [(("thing" : Str), v)]) := I1.hok dd _ ea
  obtain ⟨mA, hns, hr⟩ := hx
  obtain ⟨od, ho, hl⟩ := lookIn_ns hns
  have l : List.lookup ("thing" : Str) [(("thing" : Str), v)] = some v := by simp [List.lookup]
  obtain ⟨u, hu, ru⟩ := RelO.some_of (v := v) (o := mA "thing") (by rw [← l]; exact hr "thing")
  have J : PySem.W.InstAt s1.heap a oe C (some od) := ⟨ha, hz.1, by unfold PySem.W.notCls; rw [hd] <;> rfl, by rw [hz.2]; exact ho⟩
  exact HandSPX.exc_get I1.kIn J T.ga T.gg T.exC (PySem.W.findObj_own T.hdC T.noN rfl (by rw [hl, hu])) (handed_of ru) ⟨v, H1, I1.tok _, ru, q⟩
end
end L2
set_option Elab.async false
set_option linter.all false
set_option maxRecDepth 100000
set_option maxHeartbeats 4000000
namespace K17
open PySem PySem.Spec PyProof.Rows L2 LamX
section
variable {P : Program} {w : World} {K : PySem.W.Frag} {mg : Str → Option Value} {base : Heap}
/-- what stands at p is a list or a tuple of these -/
def Sq (H : Hp) (p : Addr) (xs : List V) : Prop := H p = some (.lst xs) ∨ H p = some (.tup xs)
theorem Ge.sq {T : List (Addr × Str)} {H H' : Hp} {p : Addr} {xs : List V} (x : Ge T H H') (h : Sq H p xs) : Sq H' p xs := h.imp x.lst x.tup
theorem Sq.or {H : Hp} {p : Addr} {xs : List V} (h : Sq H p xs) : SqL K H p xs ∨ SqT K H p xs := h.imp SqL.of SqT.of
/-! ### is_list -/
theorem sc_is_list : FnScope ["thing"] ["thing"] (defScope (topS 11)) := ⟨rfl, rfl, rfl, by decide +kernel, rfl, by decide +kernel, by decide +kernel⟩
def spIsList (K : PySem.W.Frag) : Sp := fun vs H Q _ => ∃ (p : Addr) (xs : List V), vs = [.ref p] ∧ Sq H p xs ∧ ∀ H', Gr K H H' → Q (.bl true) H'
theorem kit_lt_l : PySem.W.kitAny K (.type "list") [.type "list", .type "tuple"] = some true := kitAny_cons (b := true) (kit_ty (by decide +kernel)) (fun z => nomatch z) (fun _ => rfl)
theorem kit_lt_t : PySem.W.kitAny K (.type "tuple") [.type "list", .type "tuple"] = some true :=
  kitAny_cons (b := false) (kit_ty (by decide +kernel)) (fun _ => kitAny_cons (b := true) (kit_ty (by decide +kernel)) (fun z => nomatch z) (fun _ => rfl)) (fun z => nomatch z)
theorem ok_is_list (X : Txt K mg) : Ok P w K mg base CX0 1 "is_list" ["thing"] (spIsList K) := by
  refine ok_def0 X 0 rfl sc_is_list (by decide +kernel) (fun vs H Q E h => ?_) (fun _ _ _ _ _ _ us hl => match us, hl with | [_], _ => rfl) (fun f cdv A outer s H vs Q E hr h => ?_)
  · obtain ⟨p, xs, rfl, _⟩ := h; rfl
  · obtain ⟨p, xs, rfl, hs, q⟩ := h
    refine ⟨_, (pss_one (ps_ret (pe_callB call_isiT (by rfl) X.b_isinstance (by decide +kernel) (pa_cons (pv 0) (pa_cons (pe_tup (pa_cons (pe_bltn (v := .ty "list") (by rfl) X.b_list (by decide +kernel) rfl) (pa_cons (pe_bltn (v := .ty "tuple") (by rfl) X.b_tuple (by decide +kernel) rfl) pa_nil))) pa_nil))))), ?_⟩
    refine ⟨_, rfl, (by show 2 ≤ sizeLine; decide), fun t ht => ?_⟩
    have g : Gr K H (upd H t (.tup [.ty "list", .ty "tuple"])) := Ge.new ht
    have k : Paired ClsV [V.ty "list", .ty "tuple"] [.type "list", .type "tuple"] := .cons (.ty _) (.cons (.ty _) .nil)
    rcases hs with hs | hs
    · exact ⟨.ref p, t, _, .type "list", _, true, rfl, upd_same, k, .base (.lst (g.lst hs)), kit_lt_l, q _ g⟩
    · exact ⟨.ref p, t, _, .type "tuple", _, true, rfl, upd_same, k, .base (.tup (g.tup hs)), kit_lt_t, q _ g⟩
/-! ### is_whole, is_number, check_number -/
theorem sc_is_whole : FnScope ["thing"] ["thing"] (defScope (topS 12)) := ⟨rfl, rfl, rfl, by decide +kernel, rfl, by decide +kernel, by decide +kernel⟩
def spIsWhole : Sp := fun vs H Q _ => ∃ i : Int, vs = [.int i] ∧ Q (.bl true) H
theorem ok_is_whole (X : Txt K mg) : Ok P w K mg base CX0 1 "is_whole" ["thing"] spIsWhole := by
  refine ok_def0 X 1 rfl sc_is_whole (by decide +kernel) (fun vs H Q E h => ?_) (fun _ _ _ _ _ _ us hl => match us, hl with | [_], _ => rfl) (fun f cdv A outer s H vs Q E hr h => ?_)
  · obtain ⟨i, rfl, _⟩ := h; rfl
  · obtain ⟨i, rfl, q⟩ := h
    refine ⟨_, (pss_one (ps_ret (pe_and (pe_callB call_isi (by rfl) X.b_isinstance (by decide +kernel) (pa_cons (pv 0) (pa_cons (pe_bltn (v := .ty "int") (by rfl) X.b_int (by decide +kernel) rfl) pa_nil))) (pe_one (pe_not (pe_callB call_isi (by rfl) X.b_isinstance (by decide +kernel) (pa_cons (pv 0) (pa_cons (pe_bltn (v := .ty "bool") (by rfl) X.b_bool (by decide +kernel) rfl) pa_nil)))))))), ?_⟩
    refine ⟨_, rfl, .int i, .ty "int", .type "int", .type "int", true, rfl, .ty _, .base (.int i), kit_ty (by decide +kernel), true, rfl, ?_⟩
    refine ⟨_, rfl, .int i, .ty "bool", .type "int", .type "bool", false, rfl, .ty _, .base (.int i), kit_ty (by decide +kernel), false, rfl, q⟩
theorem sc_is_number : FnScope ["thing"] ["thing"] (defScope (topS 13)) := ⟨rfl, rfl, rfl, by decide +kernel, rfl, by decide +kernel, by decide +kernel⟩
def spIsNumber : Sp := fun vs H Q _ => ∃ i : Int, vs = [.int i] ∧ 0 ≤ i ∧ Q (.bl true) H
theorem ok_is_number (X : Txt K mg) : Ok P w K mg base CX0 2 "is_number" ["thing"] spIsNumber := by
  refine ok_def0 X 2 rfl sc_is_number (by decide +kernel) (fun vs H Q E h => ?_) (fun _ _ _ _ _ _ us hl => match us, hl with | [_], _ => rfl) (fun f cdv A outer s H vs Q E hr h => ?_)
  · obtain ⟨i, rfl, _⟩ := h; rfl
  · obtain ⟨i, rfl, h0, q⟩ := h
    refine ⟨_, (pss_one (ps_ret (pe_and (pe_o (ok_is_whole X) hr pass0 (pa_cons (pv 0) pa_nil)) (pe_one (pe_cmpR op_ge (pv 0) pe_int (nomark _)))))), ?_⟩
    refine ⟨_, rfl, i, rfl, true, rfl, ?_⟩
    exact ⟨_, rfl, _, _, rfl, rfl, qDT h0 q⟩
theorem sc_check_number : FnScope ["thing"] ["thing"] (defScope (topS 15)) := ⟨rfl, rfl, rfl, by decide +kernel, rfl, by decide +kernel, by decide +kernel⟩
def spCheckNumber : Sp := fun vs H Q _ => ∃ i : Int, vs = [.int i] ∧ 0 ≤ i ∧ Q .non H
theorem ok_check_number (X : Txt K mg) : Ok P w K mg base CX0 3 "check_number" ["thing"] spCheckNumber := by
  refine ok_def0 X 4 rfl sc_check_number (by decide +kernel) (fun vs H Q E h => ?_) (fun _ _ _ _ _ _ us hl => match us, hl with | [_], _ => rfl) (fun f cdv A outer s H vs Q E hr h => ?_)
  · obtain ⟨i, rfl, _⟩ := h; rfl
  · obtain ⟨i, rfl, h0, q⟩ := h
    refine ⟨_, (pss_one (ps_if (pt_not (pt_val (pe_o (ok_is_number X) hr pass0 (pa_cons (pv 0) pa_nil)))) (pss_one ps_never) pss_nil)), ?_⟩
    exact ⟨_, rfl, i, rfl, h0, true, rfl, q⟩
/-! ### multiple_of, lowest -/
theorem sc_multiple_of : FnScope ["one", "other"] ["one", "other"] (defScope (topS 16)) := ⟨rfl, rfl, rfl, by decide +kernel, rfl, by decide +kernel, by decide +kernel⟩
def spMultipleOf : Sp := fun vs H Q _ => ∃ a b : Nat, vs = [.int a, .int b] ∧ 0 < a ∧ 0 < b ∧ a < 2 ^ 24 ∧ b < 2 ^ 24 ∧ Q (.int (Nat.lcm a b : Nat)) H
theorem ok_multiple_of (X : Txt K mg) : Ok P w K mg base CX0 1 "multiple_of" ["one", "other"] spMultipleOf := by
  refine ok_def0 X 5 rfl sc_multiple_of (by decide +kernel) (fun vs H Q E h => ?_) (fun _ _ _ _ _ _ us hl => match us, hl with | [_, _], _ => rfl) (fun f cdv A outer s H vs Q E hr h => ?_)
  · obtain ⟨a, b, rfl, _⟩ := h; rfl
  · obtain ⟨a, b, rfl, ha, hb, la, lb, q⟩ := h
    refine ⟨_, (pss_one (ps_ret (pe_op op_fdiv (pe_op op_mul (pv 0) (pv 1)) (pe_callBfun cr_gcd (by rfl) X.gcd (pa_cons (pv 0) (pa_cons (pv 1) pa_nil)))))), ?_⟩
    have hg : 0 < Nat.gcd a b := Nat.gcd_pos_of_pos_left b ha
    have hg2 : Nat.gcd a b ≤ a := Nat.gcd_le_left b ha
    refine ⟨_, rfl, _, rfl, _, _, rfl, rfl, .inl ⟨by omega, by omega⟩, _, rfl, _, rfl, _, _, rfl, _, _, rfl, rfl, ⟨by simp only [Int.natAbs_natCast]; omega, by simp only [Int.natAbs_natCast]; omega⟩, ?_⟩
    simp only [Int.natAbs_natCast]
    have e : (a : Int) * b / (Nat.gcd a b : Nat) = (Nat.lcm a b : Nat) := by
      unfold Nat.lcm
      rw [← Int.natCast_mul, Int.natCast_ediv]
    rw [e]
    exact q
theorem sc_lowest : FnScope ["top", "bottom", "common"] ["top", "bottom"] (defScope (topS 17)) := ⟨rfl, rfl, rfl, by decide +kernel, rfl, by decide +kernel, by decide +kernel⟩
/-- a fraction in lowest terms -/
def low (a : Int) (b : Nat) : Int × Int := (a / (Nat.gcd a.natAbs b : Nat), (b : Int) / (Nat.gcd a.natAbs b : Nat))
def spLowest (K : PySem.W.Frag) : Sp := fun vs H Q _ => ∃ (a : Int) (b : Nat), vs = [.int a, .int b] ∧ 0 < b ∧ b < 2 ^ 24 ∧ ∀ t, H t = none → Q (.ref t) (upd H t (.tup [.int (low a b).1, .int (low a b).2]))
theorem ok_lowest (X : Txt K mg) : Ok P w K mg base CX0 1 "lowest" ["top", "bottom"] (spLowest K) := by
  refine ok_def0 X 6 rfl sc_lowest (by decide +kernel) (fun vs H Q E h => ?_) (fun _ _ _ _ _ _ us hl => match us, hl with | [_, _], _ => rfl) (fun f cdv A outer s H vs Q E hr h => ?_)
  · obtain ⟨a, b, rfl, _⟩ := h; rfl
  · obtain ⟨a, b, rfl, hb, lb, q⟩ := h
    refine ⟨_, (pss_cons (ps_set (i := 2) sc_lowest.nd rfl (.inl rfl) (pe_ifExp (pt_cmpR op_gt (pv 1) pe_int (nomark _)) (pe_callBfun cr_gcd (by rfl) X.gcd (pa_cons (pv 0) (pa_cons (pv 1) pa_nil))) (pe_op op_sub pe_int (pe_callBfun cr_gcd (by rfl) X.gcd (pa_cons (pv 0) (pa_cons (pv 1) pa_nil))))))
  (pss_one (ps_ret (pe_tup (pa_cons (pe_op op_fdiv (pv 0) (pv 2)) (pa_cons (pe_op op_fdiv (pv 1) (pv 2)) pa_nil)))))), ?_⟩
    have hg : 0 < Nat.gcd a.natAbs b := Nat.gcd_pos_of_pos_right _ hb
    have hg2 : Nat.gcd a.natAbs b ≤ b := Nat.gcd_le_right _ hb
    refine ⟨_, rfl, _, _, rfl, rfl, _, rfl, ?_⟩
    refine iteDT (by omega) ⟨_, rfl, _, rfl, a, (b : Int), rfl, ?_⟩
    simp only [Int.natAbs_natCast]
    refine ⟨_, rfl, _, rfl, _, _, rfl, rfl, ⟨by omega, by omega⟩, _, rfl, _, rfl, _, _, rfl, rfl, ⟨by omega, by omega⟩, by show 2 ≤ sizeLine; decide, fun t ht => ?_⟩
    exact q t ht
end
end K17
set_option Elab.async false
set_option linter.all false
set_option maxRecDepth 100000
set_option maxHeartbeats 4000000
/-! A function value (a lambda with captured cells) handed to a def: its object and the maker's cells are tracked, frozen, while the callee runs. -/
namespace K17
open PySem PySem.Spec PyProof.Rows L2 LamX NdefX
/-- a thing that is to stay what it is -/
def pinO (o : Obj) : HO := .frz o (.ext fun _ => True)
def cover (H : Hp) (l : List (Addr × Obj)) : Hp := fun a => match l.lookup a with
  | some o => some (pinO o)
  | none => H a
def uncover (H : Hp) (l : List (Addr × Obj)) : Hp := fun a => match l.lookup a with
  | some _ => none
  | none => H a
section
variable {P : Program} {w : World} {K : PySem.W.Frag} {mg : Str → Option Value} {base : Heap} {A : Around} {outer : List Env} {s s' : Shared} {H H' : Hp} {h h' : Heap} {l : List (Addr × Obj)} {Q : VK} {u : Value} {a : Addr} {o : Obj} {fs ex : List Addr}
theorem cover_in (e : l.lookup a = some o) : cover H l a = some (pinO o) := by unfold cover; rw [e]
theorem cover_out (e : l.lookup a = none) : cover H l a = H a := by unfold cover; rw [e]
theorem uncover_in (e : l.lookup a = some o) : uncover H l a = none := by unfold uncover; rw [e]
theorem uncover_out (e : l.lookup a = none) : uncover H l a = H a := by unfold uncover; rw [e]
theorem pin_ok (e : h.get? a = some o) : ObjOk P w H h a (pinO o) := ⟨e, True.intro, ⟨o, e⟩, fun _ _ _ _ => True.intro⟩
theorem hok_cover (ok : HOk P w H h) (hl : ∀ a o, l.lookup a = some o → h.get? a = some o ∧ H a = none) : HOk P w (cover H l) h := fun b u e => by
  cases q : l.lookup b with
  | some o =>
    rw [cover_in q] at e
    cases e
    exact pin_ok (hl b o q).1
  | none =>
    rw [cover_out q] at e
    refine (ok b u e).stay (fun _ _ _ z => z) (fun c z => ?_) (fun c xs z => ?_)
    all_goals
      cases q2 : l.lookup c with
      | some o2 => rw [(hl c o2 q2).2] at z; cases z
      | none => rw [cover_out q2]; exact z
theorem hok_uncover (ok : HOk P w H h) (hl : ∀ a o, l.lookup a = some o → H a = some (pinO o)) : HOk P w (uncover H l) h := fun b u e => by
  cases q : l.lookup b with
  | some o =>
    rw [uncover_in q] at e
    cases e
  | none =>
    rw [uncover_out q] at e
    refine (ok b u e).stay (fun _ _ _ z => z) (fun c z => ?_) (fun c xs z => ?_)
    all_goals
      cases q2 : l.lookup c with
      | some o2 => rw [hl c o2 q2] at z; cases z
      | none => rw [uncover_out q2]; exact z
theorem env0_cover (e : Env0 P w K mg base A outer s H) (hl : ∀ a o, l.lookup a = some o → s.heap.get? a = some o ∧ H a = none) (hb : ∀ a o, l.lookup a = some o → base.get? a = none) (hf : ∀ a o, l.lookup a = some o → a ∉ frs outer) : Env0 P w K mg base A outer s (cover H l) :=
  ⟨e.frames, e.mod, fun b o z => ⟨(e.bs b o z).1, by
    cases q : l.lookup b with
    | some o2 => rw [hb b o2 q] at z; cases z
    | none => rw [cover_out q]; exact (e.bs b o z).2⟩, e.bsz, e.funs, fun b z => by
    cases q : l.lookup b with
    | some o2 => exact absurd z (hf b o2 q)
    | none => rw [cover_out q]; exact e.frf b z, hok_cover e.hok hl, e.bare⟩
theorem env0_uncover (e : Env0 P w K mg base A outer s H) (hl : ∀ a o, l.lookup a = some o → H a = some (pinO o)) : Env0 P w K mg base A outer s (uncover H l) :=
  ⟨e.frames, e.mod, fun b o z => ⟨(e.bs b o z).1, by
    cases q : l.lookup b with
    | some o2 => exact uncover_in q
    | none => rw [uncover_out q]; exact (e.bs b o z).2⟩, e.bsz, e.funs, fun b z => by
    cases q : l.lookup b with
    | some o2 => exact uncover_in q
    | none => rw [uncover_out q]; exact e.frf b z, hok_uncover e.hok hl, e.bare⟩
/-- behind a call that ran with l covered -/
theorem un_uncover (x : Un fs ex (cover H l) H' h h') (ok : HOk P w H' h') (hl : ∀ a o, l.lookup a = some o → h.get? a = some o ∧ H a = none) : Un fs ex H (uncover H' l) h h' := by
  have hin : ∀ {a o}, l.lookup a = some o → h'.get? a = some o := fun {a o} q => (ok a _ (x.frzs a o _ (cover_in q))).1
  have nl : ∀ {b u}, H b = some u → l.lookup b = none := fun {b u} e => by
    cases q : l.lookup b with
    | none => rfl
    | some o => rw [(hl b o q).2] at e; cases e
  refine ⟨fun b o e n hb hx => ?_, fun b o e n hb hx => ?_, fun b o e n hx => ?_, fun b o e hx => x.there b o e hx, fun b xs e => ?_, fun b o u e => ?_, fun b ps e => ?_⟩
  · cases q : l.lookup b with
    | some o2 =>
      have := (hl b o2 q).1
      rw [e] at this; cases this
      exact hin q
    | none => exact x.keep b o e (by rw [cover_out q]; exact n) hb hx
  · cases q : l.lookup b with
    | some o2 =>
      have := (hl b o2 q).1
      rw [e] at this; cases this
      exact ⟨o.slots, hin q⟩
    | none => exact x.slot b o e (by rw [cover_out q]; exact n) hb hx
  · cases q : l.lookup b with
    | some o2 => exact uncover_in q
    | none => rw [uncover_out q]; exact x.free b o e (by rw [cover_out q]; exact n) hx
  · have q := nl e
    rw [uncover_out q]; exact x.tups b xs (by rw [cover_out q]; exact e)
  · have q := nl e
    rw [uncover_out q]; exact x.frzs b o u (by rw [cover_out q]; exact e)
  · have q := nl e
    obtain ⟨m, z⟩ := x.tbls b ps (by rw [cover_out q]; exact e)
    exact ⟨m, by rw [uncover_out q]; exact z⟩
theorem ce_uncover (c : CE outer P w (cover H l) s Q u s') (hl : ∀ a o, l.lookup a = some o → s.heap.get? a = some o ∧ H a = none) : CE outer P w H s (fun v H2 => ∃ H', H2 = uncover H' l ∧ (∀ a o, l.lookup a = some o → H' a = some (pinO o)) ∧ Q v H') u s' := by
  obtain ⟨v, H', h1, h2, un, ok, r, q⟩ := c
  have fz : ∀ a o, l.lookup a = some o → H' a = some (pinO o) := fun a o e => un.frzs a o _ (cover_in e)
  exact ⟨v, _, h1, h2, un_uncover un ok hl, hok_uncover ok fz, r, H', rfl, fz, q⟩
/-- behind a call that ran with l uncovered -/
theorem ce_cover (c : CE outer P w (uncover H l) s Q u s') (ok : HOk P w H s.heap) (frf : ∀ b ∈ frs outer, H b = none) (hl : ∀ a o, l.lookup a = some o → H a = some (pinO o)) : CE outer P w H s (fun v H2 => ∃ H', H2 = cover H' l ∧ Q v H') u s' := by
  obtain ⟨v, H', h1, h2, x, ok', r, q⟩ := c
  have hin : ∀ {a o}, l.lookup a = some o → s.heap.get? a = some o := fun {a o} q => (ok a _ (hl a o q)).1
  have nf : ∀ {a o}, l.lookup a = some o → a ∉ frs outer := fun {a o} q z => by
    have := frf a z
    rw [hl a o q] at this; cases this
  have hl' : ∀ a o, l.lookup a = some o → s'.heap.get? a = some o ∧ H' a = none := fun a o q => ⟨x.keep a o (hin q) (uncover_in q) (nf q) (by simp), x.free a o (hin q) (uncover_in q) (by simp)⟩
  have nl : ∀ {b u}, H b = some u → (∀ o, u ≠ pinO o) → l.lookup b = none := fun {b u} e n => by
    cases q : l.lookup b with
    | none => rfl
    | some o => rw [hl b o q] at e; exact absurd (Option.some.inj e).symm (n o)
  have no : ∀ {b}, H b = none → l.lookup b = none := fun {b} e => by
    cases q : l.lookup b with
    | none => rfl
    | some o => rw [hl b o q] at e; cases e
  refine ⟨v, _, h1, h2, ⟨fun b o e n hb hx => ?_, fun b o e n hb hx => ?_, fun b o e n hx => ?_, fun b o e hx => x.there b o e hx, fun b xs e => ?_, fun b o u e => ?_, fun b ps e => ?_⟩, hok_cover ok' hl', r, H', rfl, q⟩
  · exact x.keep b o e (by rw [uncover_out (no n)]; exact n) hb hx
  · exact x.slot b o e (by rw [uncover_out (no n)]; exact n) hb hx
  · rw [cover_out (no n)]; exact x.free b o e (by rw [uncover_out (no n)]; exact n) hx
  · have q := nl e (fun o z => by cases z)
    rw [cover_out q]; exact x.tups b xs (by rw [uncover_out q]; exact e)
  · cases q2 : l.lookup b with
    | some o2 =>
      rw [hl b o2 q2] at e
      rw [cover_in q2]; exact e
    | none => rw [cover_out q2]; exact x.frzs b o u (by rw [uncover_out q2]; exact e)
  · have q := nl e (fun o z => by cases z)
    obtain ⟨m, z⟩ := x.tbls b ps (by rw [uncover_out q]; exact e)
    exact ⟨m, by rw [cover_out q]; exact z⟩
end
/-! ### a function that answers by G: whatever is tracked stays -/
structure FvG (P : Program) (w : World) (K : PySem.W.Frag) (mg : Str → Option Value) (base : Heap) (k : Nat) (H : Hp) (f : Addr) (G : Nat → Int) : Prop where
  fn : ∀ (H' : Hp) (A : Around) (outer : List Env) (s : Shared), Gr K H H' → Env0 P w K mg base A outer s H' → PySem.W.FnAt f s.heap
  run : ∀ (H' : Hp) (A : Around) (outer : List Env) (s : Shared) (n : Nat) (u : Value) (Q : VK) (E : XK), Gr K H H' → Room k A → Env0 P w K mg base A outer s H' → n < 2 ^ 60 → RelV (.int n) u → Q (.int (G n)) H' → codeAny (model P w) A (.call (.ref f) ⟨[u], []⟩) (CR CX0 outer P w H' s Q E) s
theorem FvG.gr {P : Program} {w : World} {K : PySem.W.Frag} {mg : Str → Option Value} {base : Heap} {k : Nat} {H H' : Hp} {f : Addr} {G : Nat → Int} (F : FvG P w K mg base k H f G) (g : Gr K H H') : FvG P w K mg base k H' f G :=
  ⟨fun H2 A outer s g2 => F.fn H2 A outer s (g.trans g2), fun H2 A outer s n u Q E g2 => F.run H2 A outer s n u Q E (g.trans g2)⟩
def tFv (P : Program) (w : World) (K : PySem.W.Frag) (mg : Str → Option Value) (base : Heap) (k i : Nat) (t : TA) : TE := fun σ H Q => ∃ f G, σ[i]? = some (some (.ref f)) ∧ FvG P w K mg base k H f G ∧ t σ H fun vs H1 => Gr K H H1 ∧ ∃ n : Nat, vs = [.int n] ∧ n < 2 ^ 60 ∧ Q (.int (G n)) H1
section
variable {X : Cx} {P : Program} {w : World} {K : PySem.W.Frag} {mg : Str → Option Value} {base : Heap} {i j k : Nat} {x : Str} {e : Expr} {t : TA} {p pos : Pos}
theorem pe_fv (hr : Room k X.A) (hk : j ≤ k) (hN : X.N[i]? = some x) (hv : Vis X.env.scope x) (ha : PA X [e] t)
    (hd : (x == ("__debug__" : Str)) = false := by decide) (hcd : (x == ("__classdict__" : Str)) = false := by decide)
    (he : starEach [e] X.env = (false, eval e X.env) :: starEach [] X.env := by rfl) :
    PE X (.Call (.Name x p) [e] [] pos) (tFv X.prog X.w X.K X.mg X.base j i t) := by
  refine ⟨fun pins s σ H Q I h => ?_⟩
  obtain ⟨f, G, hs, hf, ht⟩ := h
  refine wpAny_Call_Name_kw (thn ((pe_var (pos := p) hN hv hd hcd).run pins s σ H (fun v H1 => v = .ref f ∧ H1 = H) I ⟨.ref f, hs, rfl, rfl⟩) fun u s1 ⟨v, H1, I1, r1, q1⟩ => ?_)
  obtain ⟨ev, eH⟩ := q1
  subst ev
  rw [eH] at I1
  obtain rfl : u = Value.ref f := r1
  refine PySem.W.callWith_F (first := []) (hf.fn H _ _ s1 (Ge.refl H) I1.env0) (thn (ha.run pos pins s1 σ H _ I1 ht) fun us s2 ⟨vs, H2, I2, r, g2, n, e1, h2, q⟩ => ⟨hf.fn H2 _ _ s2 g2 I2.env0, ?_⟩) he rfl
  subst e1
  cases r with
  | cons ru rt =>
    cases rt
    show wpAny _ _ (call (.ref f) _) _ _ _
    refine wpAny_call (codeAny_mono (hf.run H2 X.A X.stack s2 n _ Q E0 g2 (hr.mono hk) I2.env0 h2 ru q) fun r s' hq => ?_)
    cases r with
    | error e => exact (show False from hq).elim
    | ok fl =>
      cases fl with
      | ret u => exact I2.after hq
      | next => exact False.elim hq
      | brk => exact False.elim hq
      | cont => exact False.elim hq
theorem pe_fvK {mg : Str → Option Value} (hr : Room k X.A) (hk : j ≤ k) (hN : X.N[i]? = some x) (hv : Vis X.env.scope x) (ha : PA X [e] t)
    (hP : X.prog = P := by rfl) (hw : X.w = w := by rfl) (hK : X.K = K := by rfl) (hmg : X.mg = mg := by rfl) (hb : X.base = base := by rfl)
    (hd : (x == ("__debug__" : Str)) = false := by decide) (hcd : (x == ("__classdict__" : Str)) = false := by decide)
    (he : starEach [e] X.env = (false, eval e X.env) :: starEach [] X.env := by rfl) :
    PE X (.Call (.Name x p) [e] [] pos) (tFv P w K mg base j i t) := by
  subst hP; subst hw; subst hK; subst hmg; subst hb
  exact pe_fv hr hk hN hv ha hd hcd he
end
/-- what is tracked but not frozen stays when l is uncovered -/
theorem kept_un {H' : Hp} {l : List (Addr × Obj)} {b : Addr} {o : HO} (hl : ∀ a o, l.lookup a = some o → H' a = some (pinO o)) (n : ∀ ob, o ≠ pinO ob) (e : H' b = some o) : uncover H' l b = some o := by
  cases z : l.lookup b with
  | some ob => rw [hl b ob z] at e; exact absurd (Option.some.inj e).symm (n ob)
  | none => rw [uncover_out z]; exact e
theorem cover_of {H : Hp} {l : List (Addr × Obj)} {b : Addr} {o : HO} (hl : ∀ a o, l.lookup a = some o → H a = none) (e : H b = some o) : cover H l b = some o := by
  cases z : l.lookup b with
  | some ob => rw [hl b ob z] at e; cases e
  | none => rw [cover_out z]; exact e
theorem ge_uncover {T : List (Addr × Str)} {H H' : Hp} {l : List (Addr × Obj)} (hn : ∀ a o, l.lookup a = some o → H a = none) (hl : ∀ a o, l.lookup a = some o → H' a = some (pinO o)) (g : Ge T (cover H l) H') : Ge T H (uncover H' l) := by
  refine ⟨fun b o e n => ?_, fun t => ?_⟩
  · have q : l.lookup b = none := by
      cases q : l.lookup b with
      | none => rfl
      | some ob => rw [hn b ob q] at e; cases e
    rw [uncover_out q]
    exact g.ext b o (by rw [cover_out q]; exact e) n
  · have t2 := g.tab (t.ext fun b o e => cover_of hn e)
    intro p hp
    obtain ⟨ps, a, b, c⟩ := t2 p hp
    refine ⟨ps, kept_un hl (fun _ z => by cases z) a, b, fun pos cv z => ?_⟩
    obtain ⟨c', e, z⟩ := c pos cv z
    exact ⟨c', e, kept_un hl (fun _ z => by unfold CodeO pinO at z; cases z) z⟩
theorem row_uncover {K : PySem.W.Frag} {H' : Hp} {l : List (Addr × Obj)} {p : Addr} {F : Nat → Int} (hl : ∀ a o, l.lookup a = some o → H' a = some (pinO o)) (r : IsRow K H' p F) : IsRow K (uncover H' l) p F := by
  obtain ⟨t, ct, et, z, dx, e, rr, x1, x2, x3⟩ := r
  exact ⟨t, ct, et, z, dx, e, rr, kept_un hl (fun _ z => by cases z) x1, kept_un hl (fun _ z => by cases z) x2, kept_un hl (fun _ z => by cases z) x3⟩
end K17
set_option Elab.async false
set_option linter.all false
set_option maxRecDepth 100000
set_option maxHeartbeats 4000000
/-! Slices, items, comprehensions in short. -/
namespace K17
open PySem PySem.Spec PyProof.Rows L2 LamX
theorem getI {ns : List Int} {i : Nat} (h : i < ns.length) : (ns.map V.int)[i]? = some (.int ns[i]) := by
  rw [List.getElem?_map, List.getElem?_eq_getElem h]; rfl
theorem getID {ns : List Int} {i : Nat} (h : i < ns.length) : (ns.map V.int)[i]? = some (.int (ns.getD i 0)) := by
  rw [getI h, RW.getD_lt h]
theorem atID {ns : List Int} {i : Nat} (h : i < ns.length) : atI (ns.map V.int) (i : Int) = some (.int (ns.getD i 0)) := atI_nat (getID h)
theorem atI_eq {xs : List V} {i : Int} {j : Nat} {v : V} (e : i = j) (h : xs[j]? = some v) : atI xs i = some v := by rw [e]; exact atI_nat h
theorem atID' {ns : List Int} {i : Int} {j : Nat} (e : i = j) (h : j < ns.length) : atI (ns.map V.int) i = some (.int (ns.getD j 0)) := by rw [e]; exact atID h
theorem atLast {ns : List Int} (h : 0 < ns.length) : atI (ns.map V.int) (-1) = some (.int (ns.getD (ns.length - 1) 0)) := by
  have hn : ns ≠ [] := by intro z; rw [z] at h; cases h
  have e : ns.map V.int = ns.dropLast.map V.int ++ [.int (ns.getD (ns.length - 1) 0)] := by
    conv => lhs; rw [← List.dropLast_concat_getLast hn, List.map_append]
    rw [RW.getD_lt (by omega), List.getLast_eq_getElem]; rfl
  rw [e]; exact atI_last _ _
theorem cut_take {xs : List V} {k : Nat} (h : k ≤ xs.length) : cutV xs none (some (k : Int)) = xs.take k := by
  unfold cutV
  rw [HT.sIx_none, HT.sIx_nat, List.drop_zero, Nat.sub_zero, Nat.min_eq_left h]
theorem cut_drop {xs : List V} {k : Nat} (h : k ≤ xs.length) : cutV xs (some (k : Int)) none = xs.drop k := by
  unfold cutV
  rw [HT.sIx_none, HT.sIx_nat, Nat.min_eq_left h]
  exact List.take_of_length_le (by rw [List.length_drop]; exact Nat.le_refl _)
theorem cut_init {xs : List V} (h : 0 < xs.length) : cutV xs none (some (-1)) = xs.dropLast := by
  unfold cutV
  rw [HT.sIx_none, List.drop_zero, Nat.sub_zero, show HT.sIx xs.length xs.length (some (-1)) = xs.length - 1 by
    show (if (-1 : Int) < 0 then ((-1 : Int) + (xs.length : Int)).toNat else min (-1 : Int).toNat xs.length) = _; rw [if_pos (by decide)]; omega, List.dropLast_eq_take]
theorem cut_mid {xs : List V} {a b : Nat} (hb : b ≤ xs.length) (ha : a ≤ b) : cutV xs (some (a : Int)) (some (b : Int)) = (xs.drop a).take (b - a) := by
  unfold cutV
  rw [HT.sIx_nat, HT.sIx_nat, Nat.min_eq_left hb, Nat.min_eq_left (Nat.le_trans ha hb)]
/-- a slice of a tuple: itself, or a new one -/
theorem slA {K : PySem.W.Frag} {H : Hp} {a : Addr} {xs : List V} {lo hi : Option Int} {Q : VK} (h : H a = some (.tup xs)) (q : ∀ p H', Gr K H H' → H' p = some (.tup (cutV xs lo hi)) → Q (.ref p) H') : RSlA1 K (.ref a) lo hi H Q := by
  refine ⟨a, xs, rfl, .of h, fun ⟨w1, w2⟩ => ?_, fun _ p hp => q p _ (Ge.new hp) upd_same⟩
  refine q a H (Ge.refl H) ?_
  rw [h]
  unfold cutV
  rw [w1, w2, List.drop_zero, Nat.sub_zero, List.take_length]
theorem sized {n : Nat} (h : n ≤ 16777216) : n ≤ sizeLine := by rw [sizeLine_eq]; exact h
theorem sizedL {n : Nat} (h : n < 16777216) : n < sizeLine := by rw [sizeLine_eq]; exact h
section
variable {K : PySem.W.Frag} {g : TG} {te : TE} {vs : List Nat} {σ : L2.St} {H1 : Hp} {D : Addr} {Qd : Hp → Prop} {F : Nat → V}
theorem range_snoc {α : Type} (F : Nat → α) (i : Nat) : (List.range i).map F ++ [F i] = (List.range (i + 1)).map F := by
  rw [List.range_succ, List.map_append]; rfl
/-- [e for x in ..], the i-th element F i -/
theorem lc_map {J : It} {n : Nat} (F : Nat → V) (xs : Nat → V) (hD : H1 D = none) (hn : n ≤ 16777216) (hgo : ∀ i H, i < n → Gr K H1 H → J.go i H) (hst : ∀ H, Gr K H1 H → J.stop n H) (hy : ∀ i H x H', i < n → Gr K H1 H → J.yld i H x H' → H' = H ∧ x = xs i)
    (hs : ∀ i H (Q : VK), i < n → Gr K H1 H → (∀ H4, Gr K H H4 → Q (F i) H4) → g (xs i) (wipe σ vs) H fun σ2 H2 => wipe σ2 vs = wipe σ vs ∧ te σ2 H2 Q)
    (hd : ∀ H, Gr K H1 H → H D = some (.lst ((List.range n).map F)) → Qd H) :
    ∃ W : Nat → Nat → Hp → Prop, (∃ m, W 0 m (upd H1 D (.lst []))) ∧ ∀ i m H, W i m H →
      (J.stop i H ∧ Qd H) ∨ (J.go i H ∧ ∃ Nx : Hp → Prop, (∀ H', Nx H' → ∃ m', m' < m ∧ W (i + 1) m' H') ∧ ∀ x H', J.yld i H x H' → g x (wipe σ vs) H' fun σ2 H2 => wipe σ2 vs = wipe σ vs ∧ tYes σ2 H2 fun b H3 =>
        if b = true then te σ2 H3 fun y H4 => ∃ acc, H4 D = some (.lst acc) ∧ acc.length < sizeLine ∧ Nx (upd H4 D (.lst (acc ++ [y]))) else Nx H3) := by
  refine lc_any (n := n) (fun i H => i ≤ n ∧ Gr K H1 H ∧ H D = some (.lst ((List.range i).map F))) ⟨Nat.zero_le _, Ge.new hD, upd_same⟩ (fun i H hi hP => hgo i H hi hP.2.1) (fun H hP => hst H hP.2.1) (fun i x H H' hi hP hyl => ?_) (fun H hP => hd H hP.2.1 hP.2.2)
  obtain ⟨rfl, rfl⟩ := hy i H x H' hi hP.2.1 hyl
  refine hs i H' (fun y H4 => ∃ acc, H4 D = some (.lst acc) ∧ acc.length < sizeLine ∧ (i + 1 ≤ n ∧ Gr K H1 (upd H4 D (.lst (acc ++ [y]))) ∧ upd H4 D (.lst (acc ++ [y])) D = some (.lst ((List.range (i + 1)).map F)))) hi hP.2.1 fun H4 g4 => ?_
  refine ⟨_, g4.lst hP.2.2, ?_, ?_⟩
  · rw [List.length_map, List.length_range]; exact sizedL (by omega)
  · refine ⟨hi, ⟨fun b o e n2 => ?_, fun t => ?_⟩, ?_⟩
    · have : b ≠ D := ne_of_none e hD
      rw [upd_ne this]
      exact g4.ext b o (hP.2.1.ext b o e n2) n2
    · have t2 := g4.tab (hP.2.1.tab t)
      intro p hp
      obtain ⟨ps, h1, h2, h3⟩ := t2 p hp
      have nD : p.1 ≠ D := by
        intro z
        rw [z, g4.lst hP.2.2] at h1
        cases h1
      refine ⟨ps, by rw [upd_ne nD]; exact h1, h2, fun pos cv hc => ?_⟩
      obtain ⟨c, e1, e2⟩ := h3 pos cv hc
      refine ⟨c, e1, ?_⟩
      have nC : c ≠ D := by
        intro z
        rw [z, g4.lst hP.2.2] at e2
        have e3 := Option.some.inj e2
        unfold CodeO at e3
        cases e3
      rw [upd_ne nC]; exact e2
    · rw [upd_same, range_snoc]
end
section
variable {K : PySem.W.Frag} {g : TG} {te : TE} {vs : List Nat} {σ : L2.St} {H1 : Hp} {D : Addr} {Qd : Hp → Prop}
/-- .. over a range -/
theorem lc_rng {lo : Int} {n : Nat} (F : Nat → V) (hD : H1 D = none) (hn : n ≤ 16777216)
    (hs : ∀ i H (Q : VK), i < n → Gr K H1 H → (∀ H4, Gr K H H4 → Q (F i) H4) → g (.int (lo + i)) (wipe σ vs) H fun σ2 H2 => wipe σ2 vs = wipe σ vs ∧ te σ2 H2 Q)
    (hd : ∀ H, Gr K H1 H → H D = some (.lst ((List.range n).map F)) → Qd H) :
    ∃ W : Nat → Nat → Hp → Prop, (∃ m, W 0 m (upd H1 D (.lst []))) ∧ ∀ i m H, W i m H →
      ((Itr lo n).stop i H ∧ Qd H) ∨ ((Itr lo n).go i H ∧ ∃ Nx : Hp → Prop, (∀ H', Nx H' → ∃ m', m' < m ∧ W (i + 1) m' H') ∧ ∀ x H', (Itr lo n).yld i H x H' → g x (wipe σ vs) H' fun σ2 H2 => wipe σ2 vs = wipe σ vs ∧ tYes σ2 H2 fun b H3 =>
        if b = true then te σ2 H3 fun y H4 => ∃ acc, H4 D = some (.lst acc) ∧ acc.length < sizeLine ∧ Nx (upd H4 D (.lst (acc ++ [y]))) else Nx H3) :=
  lc_map F (fun i => .int (lo + i)) hD hn (fun i H hi _ => hi) (fun H _ => Nat.le_refl n) (fun i H x H' _ _ h => h) hs hd
/-- .. over a list of these -/
theorem lc_lst {a : Addr} {xs : List V} (F : Nat → V) (hD : H1 D = none) (hl : SqL K H1 a xs) (hn : xs.length ≤ 16777216)
    (hs : ∀ i x H (Q : VK), xs[i]? = some x → Gr K H1 H → (∀ H4, Gr K H H4 → Q (F i) H4) → g x (wipe σ vs) H fun σ2 H2 => wipe σ2 vs = wipe σ vs ∧ te σ2 H2 Q)
    (hd : ∀ H, Gr K H1 H → H D = some (.lst ((List.range xs.length).map F)) → Qd H) :
    ∃ W : Nat → Nat → Hp → Prop, (∃ m, W 0 m (upd H1 D (.lst []))) ∧ ∀ i m H, W i m H →
      ((Itl K a).stop i H ∧ Qd H) ∨ ((Itl K a).go i H ∧ ∃ Nx : Hp → Prop, (∀ H', Nx H' → ∃ m', m' < m ∧ W (i + 1) m' H') ∧ ∀ x H', (Itl K a).yld i H x H' → g x (wipe σ vs) H' fun σ2 H2 => wipe σ2 vs = wipe σ vs ∧ tYes σ2 H2 fun b H3 =>
        if b = true then te σ2 H3 fun y H4 => ∃ acc, H4 D = some (.lst acc) ∧ acc.length < sizeLine ∧ Nx (upd H4 D (.lst (acc ++ [y]))) else Nx H3) := by
  have at_ : ∀ i, i < xs.length → xs[i]? = some (xs.getD i .non) := fun i hi => by rw [List.getD, List.getElem?_eq_getElem hi]; rfl
  exact lc_map F (fun i => xs.getD i .non) hD hn (fun i H hi g => ⟨xs, _, g.sqL hl, at_ i hi⟩) (fun H g => ⟨xs, g.sqL hl, Nat.le_refl _⟩) (fun i H x H' hi g h => ⟨h.1, Option.some.inj ((h.2 xs (g.sqL hl)).symm.trans (at_ i hi))⟩) (fun i H Q hi g q => hs i _ H Q (at_ i hi) g q) hd
/-- .. over a tuple of these -/
theorem lc_tpl {a : Addr} {xs : List V} (F : Nat → V) (hD : H1 D = none) (hl : SqT K H1 a xs) (hn : xs.length ≤ 16777216)
    (hs : ∀ i x H (Q : VK), xs[i]? = some x → Gr K H1 H → (∀ H4, Gr K H H4 → Q (F i) H4) → g x (wipe σ vs) H fun σ2 H2 => wipe σ2 vs = wipe σ vs ∧ te σ2 H2 Q)
    (hd : ∀ H, Gr K H1 H → H D = some (.lst ((List.range xs.length).map F)) → Qd H) :
    ∃ W : Nat → Nat → Hp → Prop, (∃ m, W 0 m (upd H1 D (.lst []))) ∧ ∀ i m H, W i m H →
      ((Itt K a).stop i H ∧ Qd H) ∨ ((Itt K a).go i H ∧ ∃ Nx : Hp → Prop, (∀ H', Nx H' → ∃ m', m' < m ∧ W (i + 1) m' H') ∧ ∀ x H', (Itt K a).yld i H x H' → g x (wipe σ vs) H' fun σ2 H2 => wipe σ2 vs = wipe σ vs ∧ tYes σ2 H2 fun b H3 =>
        if b = true then te σ2 H3 fun y H4 => ∃ acc, H4 D = some (.lst acc) ∧ acc.length < sizeLine ∧ Nx (upd H4 D (.lst (acc ++ [y]))) else Nx H3) := by
  have at_ : ∀ i, i < xs.length → xs[i]? = some (xs.getD i .non) := fun i hi => by rw [List.getD, List.getElem?_eq_getElem hi]; rfl
  exact lc_map F (fun i => xs.getD i .non) hD hn (fun i H hi g => ⟨xs, _, g.sqT hl, at_ i hi⟩) (fun H g => ⟨xs, g.sqT hl, Nat.le_refl _⟩) (fun i H x H' hi g h => ⟨h.1, Option.some.inj ((h.2 xs (g.sqT hl)).symm.trans (at_ i hi))⟩) (fun i H Q hi g q => hs i _ H Q (at_ i hi) g q) hd
end
/-- a mapped list of ints, place by place -/
theorem map_range_int {ns : List Int} {f : Int → Int} : (List.range ns.length).map (fun i => V.int (f (ns.getD i 0))) = (ns.map f).map V.int := by
  refine List.ext_getElem (by simp) fun i h1 h2 => ?_
  simp only [List.getElem_map, List.getElem_range]
  rw [RW.getD_lt (by simpa using h1)]
end K17
set_option Elab.async false
set_option linter.all false
set_option maxRecDepth 100000
set_option maxHeartbeats 4000000
namespace K17
open PySem PySem.Spec PyProof.Rows L2 LamX
section
variable {P : Program} {w : World} {K : PySem.W.Frag} {mg : Str → Option Value} {base : Heap}
/-! ### first_odd, of whole numbers -/
theorem sc_first_odd : FnScope ["things", "is_right", "odd", "index", "thing"] ["things", "is_right"] (defScope (topS 14)) := ⟨rfl, rfl, rfl, by decide +kernel, rfl, by decide +kernel, by decide +kernel⟩
def spFirstOdd (K : PySem.W.Frag) : Sp := fun vs H Q _ => ∃ (p : Addr) (ns : List Int), vs = [.ref p, .ref (He.ga K "is_whole")] ∧ Sq H p (ns.map V.int) ∧ ∀ H', Gr K H H' → Q .non H'
theorem ok_first_odd (X : Txt K mg) : Ok P w K mg base CX0 2 "first_odd" ["things", "is_right"] (spFirstOdd K) := by
  obtain ⟨⟨fdW, FW, bW⟩, kpW, gmW⟩ := ok_is_whole (P := P) (w := w) (base := base) X
  refine ok_def0 X 3 rfl sc_first_odd (by decide +kernel) (fun vs H Q E h => ?_) (fun _ _ _ _ _ _ us hl => match us, hl with | [_, _], _ => rfl) (fun f cdv A outer s H vs Q E hr h => ?_)
  · obtain ⟨p, ns, rfl, _⟩ := h; rfl
  · obtain ⟨p, ns, rfl, hs, q⟩ := h
    refine ⟨_, (pss_cons (ps_if (pt_not (pt_val (pe_o (ok_is_list X) hr pass0 (pa_cons (pv 0) pa_nil)))) (pss_one (ps_ret pe_int)) pss_nil)
  (pss_cons (ps_setLc (i := 2) (own := [("index", 3), ("thing", 4)]) (g := gTup K 2 (gCons (gName 3) (gCons (gName 4) gNil))) rfl sc_first_odd.nd rfl rfl (sw_true rfl rfl rfl (by decide +kernel)) (pi_enumA (by rfl) X.b_enumerate (pa_cons (pv 0) pa_nil)) (blkOk_by (N := ["things", "is_right", "odd", "index", "thing"]) (sc := defScope (topS 14)) (by decide +kernel)) (fun _ _ _ _ _ => (pg_tup rfl (pgs_cons (pg_name (i := 3) sc_first_odd.nd rfl (.inl rfl)) (pgs_cons (pg_name (i := 4) sc_first_odd.nd rfl (.inl rfl)) pgs_nil))))
      (fun _ _ _ _ _ => (pts_one (pt_not (pt_val (pe_callL (i := 1) FW hr rfl (by first | exact Or.inl rfl | exact Or.inr (Or.inl rfl) | exact Or.inr (Or.inr rfl)) kpW bW .nil pass0 (pa_cons (pv 4) pa_nil)))))) (fun _ _ _ _ _ => (pv 3)))
  (pss_one (ps_ret (pe_ifExp (pt_truth (pv 2) (by intro _; rfl)) (pe_ix ix_list (pv 2) pe_int (fun _ _ => rfl)) pe_non))))), ?_⟩
    refine ⟨_, rfl, p, _, rfl, hs, fun H1 g1 => ⟨true, rfl, ?_⟩⟩
    -- the comprehension: nothing is odd
    refine ⟨_, rfl, p, ns.map V.int, rfl, ?_⟩
    have hs1 := g1.sq hs
    have key : ∀ (J : It) (D : Addr), H1 D = none → (∀ i H, i < ns.length → Gr K H1 H → J.go i H) → (∀ H, Gr K H1 H → J.stop ns.length H) →
        (∀ i H x H', i < ns.length → Gr K H1 H → J.yld i H x H' → ∃ T y, x = .ref T ∧ H T = none ∧ H' = upd H T (.tup [.int (i : Nat), .int y])) → _ := fun J D hD h1 h2 h3 =>
      lc_any (J := J) (n := ns.length) (σ := L2.start ["things", "is_right", "odd", "index", "thing"] [.ref p, .ref (He.ga K "is_whole")]) (H1 := H1) (D := D) (Qd := fun H => Gr K H1 H ∧ H D = some (.lst []))
        (g := gTup K 2 (gCons (gName 3) (gCons (gName 4) gNil))) (te := tVar 3) (tt := tNot (tB (tCallL 1 (He.ga K "is_whole") spIsWhole [] E0 (tCons (tVar 4) tNil)))) (vs := [3, 4])
        (fun i H => Gr K H1 H ∧ H D = some (.lst [])) ⟨Ge.new hD, upd_same⟩ (fun i H hi hP => h1 i H hi hP.1) (fun H hP => h2 H hP.1) (fun i x H H' hi hP hy => by
          obtain ⟨T, y, rfl, hT, rfl⟩ := h3 i H x H' hi hP.1 hy
          refine ⟨T, _, rfl, .of upd_same, rfl, _, _, rfl, _, _, rfl, rfl, rfl, ?_⟩
          refine ⟨rfl, _, rfl, y, rfl, true, rfl, ?_⟩
          exact ⟨hP.1.trans (Ge.new hT), by rw [upd_ne (ne_of_none hP.2 hT)]; exact hP.2⟩) (fun H hP => hP)
    rcases hs1 with hs1 | hs1
    · refine .inl ⟨.of hs1, fun D hD => ?_⟩
      obtain ⟨W, hW, hturn⟩ := key (Ite K p) D hD (fun i H hi g => ⟨_, _, .of (g.lst hs1), getI hi⟩) (fun H g => ⟨_, .of (g.lst hs1), by simp⟩) (fun i H x H' hi g ⟨T, y, e1, e2, e3, e4⟩ => by
        have := e4 _ (.of (g.lst hs1))
        rw [getI hi] at this
        exact ⟨T, ns[i], e1, e2, by rw [e3, ← Option.some.inj this]⟩)
      refine ⟨W, hW, fun i m H hw => ?_⟩
      rcases hturn i m H hw with ⟨a, b, c⟩ | z
      · refine .inl ⟨a, ?_⟩
        exact ⟨_, rfl, false, .inl ⟨_, .of c, rfl⟩, q _ (g1.trans b)⟩
      · exact .inr z
    · refine .inr ⟨.of hs1, fun D hD => ?_⟩
      obtain ⟨W, hW, hturn⟩ := key (IteT K p) D hD (fun i H hi g => ⟨_, _, .of (g.tup hs1), getI hi⟩) (fun H g => ⟨_, .of (g.tup hs1), by simp⟩) (fun i H x H' hi g ⟨T, y, e1, e2, e3, e4⟩ => by
        have := e4 _ (.of (g.tup hs1))
        rw [getI hi] at this
        exact ⟨T, ns[i], e1, e2, by rw [e3, ← Option.some.inj this]⟩)
      refine ⟨W, hW, fun i m H hw => ?_⟩
      rcases hturn i m H hw with ⟨a, b, c⟩ | z
      · refine .inl ⟨a, ?_⟩
        exact ⟨_, rfl, false, .inl ⟨_, .of c, rfl⟩, q _ (g1.trans b)⟩
      · exact .inr z
end
end K17
set_option Elab.async false
set_option linter.all false
set_option maxRecDepth 100000
set_option maxHeartbeats 4000000
namespace K17
open PySem PySem.Spec PyProof.Rows L2 LamX
section
variable {P : Program} {w : World} {K : PySem.W.Frag} {mg : Str → Option Value} {base : Heap}
/-! ### shortest_cycle -/
theorem sc_shortest_cycle : FnScope ["cycle", "gain", "many", "size", "more", "longer", "value", "place"] ["cycle", "gain"] (defScope (topS 19)) := ⟨rfl, rfl, rfl, by decide +kernel, rfl, by decide +kernel, by decide +kernel⟩
def spShort (K : PySem.W.Frag) : Sp := fun vs H Q _ => ∃ (c : Addr) (cs : List Int) (g : Int), vs = [.ref c, .int g] ∧ H c = some (.tup (cs.map V.int)) ∧ 0 < cs.length ∧ cs.length ≤ 8000000 ∧
  ∀ H' p c' cs' g', Gr K H H' → RW.Short cs g cs' g' → H' p = some (.tup [.ref c', .int g']) → H' c' = some (.tup (cs'.map V.int)) → Q (.ref p) H'
theorem longer_map {cs : List Int} {g : Int} {s : Nat} : cs.map V.int ++ (List.range (cs.take s).length).map (fun i => V.int ((cs.take s).getD i 0 + g)) = (cs ++ (cs.take s).map (· + g)).map V.int := by
  rw [map_range_int (f := (· + g)), List.map_append]
theorem ok_shortest_cycle (X : Txt K mg) : Ok P w K mg base CX0 1 "shortest_cycle" ["cycle", "gain"] (spShort K) := by
  refine ok_def0 X 7 rfl sc_shortest_cycle (by decide +kernel) (fun vs H Q E h => ?_) (fun _ _ _ _ _ _ us hl => match us, hl with | [_, _], _ => rfl) (fun f cdv A outer s H vs Q E hr h => ?_)
  · obtain ⟨c, cs, g, rfl, _⟩ := h; rfl
  · obtain ⟨c, cs, g, rfl, hc, h0, hz, q⟩ := h
    refine ⟨_, (pss_cons (ps_set (i := 2) sc_shortest_cycle.nd rfl (.inl rfl) (pe_callB (len_K (K := K)) (by rfl) X.b_len (by decide +kernel) (pa_cons (pv 0) pa_nil)))
  (pss_cons (ps_for PassesOwn.never rfl (pi_range2 (by rfl) X.b_range (pa_cons pe_int (pa_cons (pv 2) pa_nil))) (pg_name (i := 3) sc_shortest_cycle.nd rfl (.inr rfl))
  (pss_one (ps_if (PW.pt (pw_and (pt_cmpR op_eq (pe_op op_mod (pv 2) (pv 3)) pe_int (nomark _)) (pw_and1 (pt_cmpR op_eq (pe_op op_mod (pe_op op_mul (pv 1) (pv 3)) (pv 2)) pe_int (nomark _)))))
  (pss_cons (ps_set (i := 4) sc_shortest_cycle.nd rfl (.inr rfl) (pe_op op_fdiv (pe_op op_mul (pv 1) (pv 3)) (pv 2)))
  (pss_cons (ps_set (i := 5) sc_shortest_cycle.nd rfl (.inr rfl) (pe_op op_cat (pe_callTy (list_K (K := K)) (by rfl) X.b_list (by decide +kernel) (pa_cons (pv 0) pa_nil)) (pe_lc (own := [("value", 6)]) (g := (gName 6)) (tt := tYes) rfl sc_shortest_cycle.nd (piT_K (K := K) (pe_slice (slT_K (K := K)) (pv 0) po_none (po_some (pv 3)))) (blkOk_by (N := ["cycle", "gain", "many", "size", "more", "longer", "value", "place"]) (sc := defScope (topS 19)) (by decide +kernel)) (fun _ _ _ _ _ => (pg_name (i := 6) sc_shortest_cycle.nd rfl (.inl rfl))) (fun _ _ _ _ _ => pts_nil) (fun _ _ _ _ _ => (pe_op op_add (pv 6) (pv 1))))))
  (pss_one (ps_if (pt_val (pe_callB (all_K (K := K)) (by rfl) X.b_all (by decide +kernel) (pa_cons (pe_lc (own := [("place", 7)]) (g := (gName 7)) (tt := tYes) rfl sc_shortest_cycle.nd (pi_range1 (by rfl) X.b_range (pa_cons (pv 2) pa_nil)) (blkOk_by (N := ["cycle", "gain", "many", "size", "more", "longer", "value", "place"]) (sc := defScope (topS 19)) (by decide +kernel)) (fun _ _ _ _ _ => (pg_name (i := 7) sc_shortest_cycle.nd rfl (.inl rfl))) (fun _ _ _ _ _ => pts_nil) (fun _ _ _ _ _ => (pe_cmpR op_eq (pe_ix (ixL_K (K := K)) (pv 5) (pe_op op_add (pv 7) (pv 3)) (fun _ _ => rfl)) (pe_op op_add (pe_ix (ixL_K (K := K)) (pv 5) (pv 7) (fun _ _ => rfl)) (pv 4)) (nomark _)))) pa_nil)))
  (pss_one (ps_ret (pe_tup (pa_cons (pe_slice (slT_K (K := K)) (pv 0) po_none (po_some (pv 3))) (pa_cons (pv 4) pa_nil)))))
  pss_nil))))
  pss_nil)))
  (pss_one (ps_ret (pe_tup (pa_cons (pv 0) (pa_cons (pv 1) pa_nil))))))), ?_⟩
    -- many = len(cycle)
    refine ⟨_, rfl, c, _, rfl, .inr (.of hc), ?_⟩
    rw [List.length_map]
    -- for size in range(1, many)
    refine ⟨_, rfl, 1, (cs.length : Int), rfl, ⟨by omega, by omega, by omega, by omega⟩, ?_⟩
    refine for_any (n := cs.length - 1) (fun i σ H' => ∃ j3 j4 j5, σ = [some (.ref c), some (.int g), some (.int cs.length), j3, j4, j5, none, none] ∧ Gr K H H' ∧ ∀ r, 0 < r → r < 1 + i → ¬ RW.OkSize cs g r)
      ⟨none, none, none, rfl, Ge.refl H, fun r h1 h2 => by omega⟩ (fun i σ H' hi _ => (show i < ((cs.length : Int) - 1).toNat by omega)) (fun σ H' _ => (show ((cs.length : Int) - 1).toNat ≤ cs.length - 1 by omega)) (fun i x σ H1 H' hi hP hy => ?_) (fun σ H1 hP => ?_)
    · obtain ⟨j3, j4, j5, rfl, g1, hno⟩ := hP
      obtain ⟨rfl, rfl⟩ := hy
      have hS0 : 0 < 1 + i := by omega
      have hS1 : 1 + i < cs.length := by omega
      have es : (1 : Int) + i = ((1 + i : Nat) : Int) := by omega
      rw [es]
      generalize 1 + i = S at *
      have hSI : (0 : Int) < S := by omega
      have hc1 := g1.tup hc
      have next : ∀ j4 j5 H2, ¬ RW.OkSize cs g S → Gr K H' H2 → ∃ j3 j4' j5', [some (V.ref c), some (.int g), some (.int cs.length), some (.int S), j4, j5, none, none] = [some (.ref c), some (.int g), some (.int cs.length), j3, j4', j5', none, none] ∧ Gr K H H2 ∧ ∀ r, 0 < r → r < 1 + (i + 1) → ¬ RW.OkSize cs g r :=
        fun j4 j5 H2 hn g2 => ⟨_, j4, j5, rfl, g1.trans g2, fun r r0 r1 => by
          by_cases e : r = S
          · rw [e]; exact hn
          · exact hno r r0 (by omega)⟩
      -- if many % size == 0 and gain * size % many == 0
      refine ⟨_, rfl, _, rfl, _, _, rfl, rfl, hSI, rfl, _, rfl, iteD (fun e1 => ?_) (fun e1 => ?_)⟩
      · refine ⟨_, rfl, _, rfl, _, _, rfl, rfl, .inr ⟨by omega, by omega⟩, _, rfl, _, _, rfl, rfl, by omega, rfl, _, rfl, iteD (fun e2 => ?_) (fun e2 => ?_)⟩
        · have d1 : cs.length % S = 0 := by have := V.int.inj e1; omega
          have d2 : g * S % cs.length = 0 := V.int.inj e2
          -- more = gain * size // many
          refine ⟨_, rfl, _, rfl, _, _, rfl, rfl, .inr ⟨by omega, by omega⟩, _, rfl, _, _, rfl, rfl, ⟨by omega, by omega⟩, ?_⟩
          -- longer = list(cycle) + [value + gain for value in cycle[:size]]
          refine ⟨_, rfl, c, _, rfl, .inr (.of hc1), fun l1 hl1 => ?_⟩
          have g2 : Gr K H' (upd H' l1 (.lst (cs.map V.int))) := Ge.new hl1
          refine ⟨_, rfl, _, rfl, _, rfl, slA (g2.tup hc1) fun p3 H3 g3 h3 => ?_⟩
          rw [cut_take (by simp; omega), ← List.map_take] at h3
          refine ⟨p3, rfl, ⟨_, .of h3⟩, fun D hD => ?_⟩
          refine lc_tpl (K := K) (F := fun i => V.int ((cs.take S).getD i 0 + g)) hD (.of h3) (by simp; omega) (fun i x H4 Q4 hx g4 q4 => ?_) (fun H4 g4 h4 => ?_)
          · have hi : i < (cs.take S).length := by have := (List.getElem?_eq_some_iff.mp hx).1; simpa using this
            rw [getID hi] at hx
            obtain rfl := Option.some.inj hx
            exact ⟨rfl, _, rfl, _, rfl, _, _, rfl, rfl, q4 _ (Ge.refl _)⟩
          · rw [List.length_map] at h4
            have hl4 := g4.lst (g3.lst (upd_same (H := H') (a := l1) (o := .lst (cs.map V.int))))
            refine ⟨l1, D, _, _, rfl, rfl, hl4, h4, sized (by simp; omega), fun L hL => ?_⟩
            rw [longer_map]
            have gL : Gr K H' (upd H4 L (.lst ((cs ++ (cs.take S).map (· + g)).map V.int))) := ((g2.trans g3).trans g4).trans (Ge.new hL)
            generalize hB : cs ++ (cs.take S).map (· + g) = B at *
            have lB : B.length = cs.length + S := by rw [← hB]; simp; omega
            -- if all([longer[place + size] == longer[place] + more for place in range(many)])
            refine ⟨_, rfl, (cs.length : Int), rfl, by omega, by omega, fun D2 hD2 => ?_⟩
            rw [Int.toNat_natCast]
            refine lc_rng (K := K) (F := fun j => V.bl (decide (V.int (B.getD (j + S) 0) = V.int (B.getD j 0 + (g * (S : Int) / (cs.length : Int)))))) hD2 (by omega) (fun j H5 Q5 hj g5 q5 => ?_) (fun H5 g5 h5 => ?_)
            · have hb := g5.lst (upd_same (H := H4) (a := L) (o := .lst (B.map V.int)))
              refine ⟨rfl, _, rfl, _, rfl, _, rfl, _, _, rfl, rfl, L, _, _, _, rfl, rfl, .of hb, atID' (j := j + S) (by omega) (by omega), _, rfl, _, rfl, L, _, _, _, rfl, rfl, .of hb, atID' (j := j) (by omega) (by omega), _, rfl, _, _, rfl, rfl, rfl, q5 _ (Ge.refl _)⟩
            · refine ⟨D2, (List.range cs.length).map fun j => decide (V.int (B.getD (j + S) 0) = V.int (B.getD j 0 + (g * (S : Int) / (cs.length : Int)))), rfl, .of (by rw [h5, List.map_map]; rfl), _, rfl, ite2 (fun ea => ?_) (fun ea => ?_)⟩
              · -- return (cycle[:size], more)
                have ok : RW.OkSize cs g S := ⟨d1, d2, fun n hn => by
                  rw [hB]
                  have := List.all_eq_true.mp ea (decide (V.int (B.getD (n + S) 0) = V.int (B.getD n 0 + (g * (S : Int) / (cs.length : Int))))) (List.mem_map.mpr ⟨n, List.mem_range.mpr hn, rfl⟩)
                  exact V.int.inj (of_decide_eq_true this)⟩
                have gH := gL.trans g5
                refine ⟨_, rfl, _, rfl, _, rfl, slA (gH.tup hc1) fun p6 H6 g6 h6 => ?_⟩
                rw [cut_take (by simp; omega), ← List.map_take] at h6
                refine ⟨_, rfl, by show 2 ≤ sizeLine; decide, fun p hp => ?_⟩
                exact q _ p p6 (cs.take S) (g * (S : Int) / (cs.length : Int)) (((g1.trans gH).trans g6).trans (Ge.new hp)) (.inl ⟨S, hS0, hS1, ok, hno, rfl, rfl⟩) upd_same ((Ge.new (T := tbs K) hp).tup h6)
              · refine next _ _ _ (fun z => ea ?_) (gL.trans g5)
                rw [List.all_eq_true]
                intro b hb
                obtain ⟨n, hn, rfl⟩ := List.mem_map.mp hb
                have := z.2.2 n (List.mem_range.mp hn)
                rw [hB] at this
                exact decide_eq_true (congrArg V.int this)
        · exact next _ _ _ (fun z => e2 (congrArg V.int z.2.1)) (Ge.refl _)
      · exact next _ _ _ (fun z => e1 (congrArg V.int (by have := z.1; omega))) (Ge.refl _)
    · obtain ⟨j3, j4, j5, rfl, g1, hno⟩ := hP
      refine ⟨_, rfl, _, rfl, by show 2 ≤ sizeLine; decide, fun p hp => ?_⟩
      exact q _ p c cs g (g1.trans (Ge.new hp)) (.inr ⟨fun r r0 r1 => hno r r0 (by omega), rfl, rfl⟩) upd_same ((Ge.new (T := tbs K) hp).tup (g1.tup hc))
end
end K17
set_option Elab.async false
set_option linter.all false
set_option maxRecDepth 100000
set_option maxHeartbeats 4000000
namespace K17
open PySem PySem.Spec PyProof.Rows L2 LamX
section
variable {P : Program} {w : World} {K : PySem.W.Frag} {mg : Str → Option Value} {base : Heap}
/-! ### least_form -/
theorem sc_least_form : FnScope ["head", "cycle", "gain", "many"] ["head", "cycle", "gain"] (defScope (topS 20)) := ⟨rfl, rfl, rfl, by decide +kernel, rfl, by decide +kernel, by decide +kernel⟩
def spLeast (K : PySem.W.Frag) : Sp := fun vs H Q _ => ∃ (a c : Addr) (hs cs : List Int) (g : Int), vs = [.ref a, .ref c, .int g] ∧ H a = some (.tup (hs.map V.int)) ∧ H c = some (.tup (cs.map V.int)) ∧ 0 < cs.length ∧ cs.length ≤ 8000000 ∧ hs.length ≤ 8000000 ∧
  ∀ H' p a' c' t, Gr K H H' → RW.Canon t → (∀ n, RW.ev t n = RW.ev ⟨hs, cs, g⟩ n) → H' p = some (.tup [.ref a', .ref c', .int t.g]) → H' a' = some (.tup (t.h.map V.int)) → H' c' = some (.tup (t.c.map V.int)) → Q (.ref p) H'
theorem ok_least_form (X : Txt K mg) : Ok P w K mg base CX0 2 "least_form" ["head", "cycle", "gain"] (spLeast K) := by
  refine ok_def0 X 8 rfl sc_least_form (by decide +kernel) (fun vs H Q E h => ?_) (fun _ _ _ _ _ _ us hl => match us, hl with | [_, _, _], _ => rfl) (fun f cdv A outer s H vs Q E hr h => ?_)
  · obtain ⟨a, c, hs, cs, g, rfl, _⟩ := h; rfl
  · obtain ⟨a, c, hs, cs, g, rfl, ha, hc, h0, hz, hzh, q⟩ := h
    refine ⟨_, (pss_cons (ps_asg (pe_o (ok_shortest_cycle X) hr pass0 (pa_cons (pv 1) (pa_cons (pv 2) pa_nil))) (tup_K (K := K) (pgs_cons (pg_name (i := 1) sc_least_form.nd rfl (.inl rfl)) (pgs_cons (pg_name (i := 2) sc_least_form.nd rfl (.inl rfl)) pgs_nil))))
  (pss_cons (ps_set (i := 3) sc_least_form.nd rfl (.inl rfl) (pe_callB (len_K (K := K)) (by rfl) X.b_len (by decide +kernel) (pa_cons (pv 0) pa_nil)))
  (pss_cons (ps_while PassesOwn.never (PW.pt (pw_and (pt_cmpR op_gt (pv 3) pe_int (nomark _)) (pw_and1 (pt_cmpR op_eq (pe_ix (ixT_K (K := K)) (pv 0) (pe_op op_sub (pv 3) pe_int) (fun _ _ => rfl)) (pe_op op_sub (pe_ix (ixT_K (K := K)) (pv 1) (pe_un un_neg pe_int) (fun _ _ => rfl)) (pv 2)) (nomark _)))))
  (pss_cons (ps_set (i := 1) sc_least_form.nd rfl (.inl rfl) (pe_tup (pa_cons (pe_ix (ixT_K (K := K)) (pv 0) (pe_op op_sub (pv 3) pe_int) (fun _ _ => rfl)) (star_K (K := K) (pe_slice (slT_K (K := K)) (pv 1) po_none (po_some (pe_un un_neg pe_int))) pa_nil))))
  (pss_one (ps_aug (i := 3) sc_least_form.nd rfl (.inl rfl) pe_int ip_sub))))
  (pss_one (ps_ret (pe_tup (pa_cons (pe_slice (slT_K (K := K)) (pv 0) po_none (po_some (pv 3))) (pa_cons (pv 1) (pa_cons (pv 2) pa_nil))))))))), ?_⟩
    -- cycle, gain = shortest_cycle(cycle, gain)
    refine ⟨_, rfl, _, rfl, c, cs, g, rfl, hc, h0, hz, fun H1 p c1 cs1 g1 gr1 sh hp hc1 => ?_⟩
    obtain ⟨z1, z2, z3, z4, z5, z6⟩ := sh.ok h0
    refine ⟨p, _, rfl, .of hp, rfl, _, _, rfl, _, _, rfl, rfl, ?_⟩
    -- many = len(head)
    have ha1 := gr1.tup ha
    refine ⟨_, rfl, a, _, rfl, .inr (.of ha1), ?_⟩
    rw [List.length_map]
    have evE : ∀ n, RW.ev ⟨hs, cs1, g1⟩ n = RW.ev ⟨hs, cs, g⟩ n := fun n => by
      by_cases hn : n < hs.length
      · rw [RW.ev_low hn, RW.ev_low hn]
      · rw [RW.ev_high (by show hs.length ≤ n; omega), RW.ev_high (by show hs.length ≤ n; omega)]
        exact z2 _
    refine ⟨fun m σ H' => ∃ c2 cc, σ = [some (.ref a), some (.ref c2), some (.int g1), some (.int (m : Nat))] ∧ Gr K H H' ∧ H' c2 = some (.tup (cc.map V.int)) ∧ m ≤ hs.length ∧ cc.length = cs1.length ∧ ∀ n, RW.ev ⟨hs.take m, cc, g1⟩ n = RW.ev ⟨hs, cs1, g1⟩ n,
      ⟨hs.length, c1, cs1, rfl, gr1, hc1, Nat.le_refl _, rfl, fun n => by rw [List.take_length]⟩, fun m σ H' hW => ?_⟩
    obtain ⟨c2, cc, rfl, gr, hc2, hm, hl, hev⟩ := hW
    have hcc : 0 < cc.length := by omega
    have ha' := gr.tup ha
    have canon : (m = 0 ∨ hs.getD (m - 1) 0 ≠ cc.getD (cc.length - 1) 0 - g1) → RW.Canon ⟨hs.take m, cc, g1⟩ := fun hd => RW.canon_end hcc hm (fun r hr => by
      rw [hl]
      refine z3 r ?_
      have e1 := RW.isP_congr hev hr
      have e2 := (RW.isP_shift (t := ⟨hs, cs1, g1⟩) r).mp e1
      exact RW.isP_congr z2 e2) hd
    refine ⟨_, rfl, _, _, rfl, rfl, _, rfl, ?_⟩
    by_cases hm0 : 0 < m
    · refine iteDT (by omega) ?_
      -- head[many - 1] == cycle[-1] - gain
      refine ⟨_, rfl, _, rfl, _, _, rfl, rfl, a, _, _, _, rfl, rfl, .of ha', atID' (j := m - 1) (by omega) (by omega), _, rfl, _, rfl, c2, _, _, _, rfl, rfl, .of hc2, atLast hcc, _, rfl, _, _, rfl, rfl, rfl, _, rfl, iteD (fun e => ?_) (fun e => ?_)⟩
      · have e' : hs.getD (m - 1) 0 = cc.getD (cc.length - 1) 0 - g1 := V.int.inj e
        refine ⟨_, fun σ' H2 z => ⟨m - 1, by omega, z⟩, ?_⟩
        -- cycle = (head[many - 1], *cycle[:-1])
        refine ⟨_, rfl, _, rfl, _, _, rfl, rfl, a, _, _, _, rfl, rfl, .of ha', atID' (j := m - 1) (by omega) (by omega), _, rfl, _, rfl, _, rfl, slA hc2 fun p3 H3 g3 h3 => ?_⟩
        rw [cut_init (by simp; omega), ← List.map_dropLast] at h3
        refine ⟨p3, _, rfl, .inl (.of h3), ?_, fun p4 hp4 => ?_⟩
        · simp; exact sized (by omega)
        · have gn : Gr K H3 (upd H3 p4 (.tup (.int (hs.getD (m - 1) 0) :: cc.dropLast.map V.int ++ []))) := Ge.new hp4
          refine ⟨_, rfl, _, _, rfl, rfl, p4, hs.getD (m - 1) 0 :: cc.dropLast, ?_, (gr.trans g3).trans gn, ?_, by omega, by simp; omega, fun n => ?_⟩
          · show [some (V.ref a), some (.ref p4), some (.int g1), some (.int ((m : Int) - 1))] = _
            rw [show (m : Int) - 1 = ((m - 1 : Nat) : Int) by omega]
          · rw [upd_same, List.append_nil]; rfl
          · have := RW.fold_turn (h := hs) (g := g1) hcc (m := m - 1) (by omega) e' n
            rw [show m - 1 + 1 = m by omega] at this
            exact this.trans (hev n)
      · refine ⟨_, rfl, _, rfl, _, rfl, slA ha' fun p3 H3 g3 h3 => ?_⟩
        rw [cut_take (by simp; omega), ← List.map_take] at h3
        refine ⟨_, rfl, _, rfl, by show 3 ≤ sizeLine; decide, fun p5 hp5 => ?_⟩
        have gn : Gr K H3 (upd H3 p5 (.tup [.ref p3, .ref c2, .int g1])) := Ge.new hp5
        exact q _ p5 p3 c2 ⟨hs.take m, cc, g1⟩ ((gr.trans g3).trans gn) (canon (.inr fun z => e (congrArg V.int z))) (fun n => (hev n).trans (evE n)) upd_same (gn.tup h3) (gn.tup (g3.tup hc2))
    · refine iteDF (by omega) ?_
      refine ⟨_, rfl, _, rfl, _, rfl, slA ha' fun p3 H3 g3 h3 => ?_⟩
      rw [cut_take (by simp; omega), ← List.map_take] at h3
      refine ⟨_, rfl, _, rfl, by show 3 ≤ sizeLine; decide, fun p5 hp5 => ?_⟩
      have gn : Gr K H3 (upd H3 p5 (.tup [.ref p3, .ref c2, .int g1])) := Ge.new hp5
      exact q _ p5 p3 c2 ⟨hs.take m, cc, g1⟩ ((gr.trans g3).trans gn) (canon (.inl (by omega))) (fun n => (hev n).trans (evE n)) upd_same (gn.tup h3) (gn.tup (g3.tup hc2))
end
end K17
set_option Elab.async false
set_option linter.all false
set_option maxRecDepth 100000
set_option maxHeartbeats 4000000
namespace K17
open PySem PySem.Spec PyProof.Rows L2 LamX
section
variable {P : Program} {w : World} {K : PySem.W.Frag} {mg : Str → Option Value} {base : Heap}
/-! ### Row.__init__ -/
theorem tabs_upd {T : List (Addr × Str)} {H : Hp} {x : Addr} {o o' : HO} (t : Tabs T H) (h : H x = some o) (h1 : ∀ ps, o ≠ .tbl ps) (h2 : ∀ φ, o ≠ .ext φ) : Tabs T (upd H x o') := by
  intro p hp
  obtain ⟨ps, a, b, d⟩ := t p hp
  have nD : p.1 ≠ x := by
    intro z
    rw [z, h] at a
    exact h1 ps (Option.some.inj a)
  refine ⟨ps, by rw [upd_ne nD]; exact a, b, fun pos cv hc => ?_⟩
  obtain ⟨c, e1, e2⟩ := d pos cv hc
  refine ⟨c, e1, ?_⟩
  have nC : c ≠ x := by
    intro z
    rw [z, h] at e2
    exact h2 _ (Option.some.inj e2)
  rw [upd_ne nC]; exact e2
theorem sc_m___init__ : FnScope ["self", "head", "cycle", "gain", "wrong"] ["self", "head", "cycle", "gain"] (defScope (inClass (topS 21) 0)) := ⟨rfl, rfl, rfl, by decide +kernel, rfl, by decide +kernel, by decide +kernel⟩
def spInit (K : PySem.W.Frag) : Sp := fun vs H Q _ => ∃ (x dx a c : Addr) (hs cs : List Int) (g : Int), vs = [.ref x, .ref a, .ref c, .int g] ∧ H x = some (.ins (rowC K) dx []) ∧ Sq H a (hs.map V.int) ∧ Sq H c (cs.map V.int) ∧ 0 < cs.length ∧ cs.length ≤ 8000000 ∧ hs.length ≤ 8000000 ∧
  ∀ H' e r t, Gr K H H' → RW.Canon t → (∀ n, RW.ev t n = RW.ev ⟨hs, cs, g⟩ n) → H' e = some (.tup (t.h.map V.int)) → H' r = some (.tup (t.c.map V.int)) →
    Q .non (upd H' x (.ins (rowC K) dx [("early", .ref e), ("round", .ref r), ("more", .int t.g)]))
/-- tuple(list or tuple) -/
theorem tupA {H : Hp} {a : Addr} {xs : List V} {Q : VK} (h : Sq H a xs) (q : ∀ p H', Gr K H H' → H' p = some (.tup xs) → Q (.ref p) H') :
    RTup1 K (.ref a) H Q := by
  rcases h with h | h
  · exact ⟨a, xs, rfl, .inl ⟨.of h, fun l hl => q l _ (Ge.new hl) upd_same⟩⟩
  · exact ⟨a, xs, rfl, .inr ⟨.of h, q a H (Ge.refl H) h⟩⟩
theorem ok_init (X : Txt K mg) : OkM P w K mg base CX0 4 "__init__" ["self", "head", "cycle", "gain"] (spInit K) := by
  refine ok_met0 X 79 rfl sc_m___init__ (fun vs H Q E h => ?_) (fun _ _ _ _ _ _ us hl => match us, hl with | [_, _, _, _], _ => rfl) (fun f cdv A outer s H vs Q E hr h => ?_)
  · obtain ⟨x, dx, a, c, hs, cs, g, rfl, _⟩ := h; rfl
  · obtain ⟨x, dx, a, c, hs, cs, g, rfl, hx, ha, hc, h0, hz, hzh, q⟩ := h
    refine ⟨_, (pss_cons (ps_set (i := 4) sc_m___init__.nd rfl (.inl rfl) (pe_o (ok_first_odd X) hr pass0 (pa_cons (pv 1) (pa_cons (pe_glob (v := .ref (He.ga K "is_whole")) (by rfl) (X.g "is_whole" (by decide +kernel)) rfl) pa_nil))))
  (pss_cons (ps_if (pt_cmpR op_notN (pv 4) pe_non (nomark _))
  (pss_one ps_never)
  pss_nil)
  (pss_cons (ps_set (i := 4) sc_m___init__.nd rfl (.inl rfl) (pe_ifExp (PW.pt (pw_or (pt_not (pt_val (pe_o (ok_is_list X) hr pass0 (pa_cons (pv 2) pa_nil)))) (pw_or1 (pt_cmpR op_gt (pe_callB (len_K (K := K)) (by rfl) X.b_len (by decide +kernel) (pa_cons (pv 2) pa_nil)) pe_int (nomark _))))) (pe_o (ok_first_odd X) hr pass0 (pa_cons (pv 2) (pa_cons (pe_glob (v := .ref (He.ga K "is_whole")) (by rfl) (X.g "is_whole" (by decide +kernel)) rfl) pa_nil))) pe_int))
  (pss_cons (ps_if (pt_cmpR op_notN (pv 4) pe_non (nomark _))
  (pss_one ps_never)
  pss_nil)
  (pss_cons (ps_if (pt_not (pt_val (pe_o (ok_is_whole X) hr pass0 (pa_cons (pv 3) pa_nil))))
  (pss_one ps_never)
  pss_nil)
  (pss_one (ps_asg (pe_o (ok_least_form X) hr pass0 (pa_cons (pe_callTy (tuple_K (K := K)) (by rfl) X.b_tuple (by decide +kernel) (pa_cons (pv 1) pa_nil)) (pa_cons (pe_callTy (tuple_K (K := K)) (by rfl) X.b_tuple (by decide +kernel) (pa_cons (pv 2) pa_nil)) (pa_cons (pv 3) pa_nil)))) (tup_K (K := K) (pgs_cons (pg_att (pv 0)) (pgs_cons (pg_att (pv 0)) (pgs_cons (pg_att (pv 0)) pgs_nil))))))))))), ?_⟩
    refine ⟨_, rfl, a, hs, rfl, ha, fun H1 g1 => ?_⟩
    refine ⟨_, rfl, rfl, _, rfl, ?_⟩
    refine ⟨_, rfl, c, _, rfl, g1.sq hc, fun H2 g2 => ⟨true, rfl, ?_⟩⟩
    have hc2 := (g1.trans g2).sq hc
    refine ⟨_, rfl, c, _, rfl, hc2.or, ?_⟩
    refine ⟨_, _, rfl, rfl, _, rfl, iteDT (by simp; omega) ?_⟩
    refine ⟨_, rfl, c, cs, rfl, hc2, fun H3 g3 => ?_⟩
    refine ⟨_, rfl, rfl, _, rfl, ?_⟩
    refine ⟨_, rfl, g, rfl, true, rfl, ?_⟩
    have gr3 := (g1.trans g2).trans g3
    refine ⟨_, rfl, _, rfl, tupA (gr3.sq ha) fun p4 H4 g4 h4 => ?_⟩
    refine ⟨_, rfl, _, rfl, tupA ((gr3.trans g4).sq hc) fun p5 H5 g5 h5 => ?_⟩
    refine ⟨_, rfl, p4, p5, hs, cs, g, rfl, g5.tup h4, h5, h0, hz, hzh, fun H6 p e r t g6 ct et hp he hr' => ?_⟩
    have gr := ((gr3.trans g4).trans g5).trans g6
    have hx6 := gr.at hx
    refine ⟨p, _, rfl, .of hp, rfl, _, _, rfl, ⟨_, rfl, x, rowC K, dx, [], rfl, hx6, X.cls, X.at1, by decide, ?_⟩⟩
    refine ⟨_, _, rfl, ⟨_, rfl, x, rowC K, dx, _, rfl, upd_same, X.cls, X.at2, (by have : (1:Nat) < 1000 := (by decide); exact this), ?_⟩⟩
    refine ⟨_, _, rfl, ⟨_, rfl, x, rowC K, dx, _, rfl, upd_same, X.cls, X.at3, (by have : (2:Nat) < 1000 := (by decide); exact this), rfl, ?_⟩⟩
    have := q H6 e r t gr ct et he hr'
    rw [upd_upd, upd_upd]
    exact this
/-- Row(a, c, g): a new row -/
theorem mkRow {H : Hp} {a c : Addr} {hs cs : List Int} {g : Int} {Q : VK} (ha : Sq H a (hs.map V.int)) (hc : Sq H c (cs.map V.int)) (h0 : 0 < cs.length) (hz : cs.length ≤ 8000000) (hzh : hs.length ≤ 8000000)
    (q : ∀ p H', Gr K H H' → IsRow K H' p (RW.ev ⟨hs, cs, g⟩) → Q (.ref p) H') : ∀ x dx, H x = none → H dx = none → dx ≠ x →
      spInit K (.ref x :: ([.ref a, .ref c, .int g] ++ [])) (upd (upd H dx (.own x)) x (.ins (rowC K) dx [])) (fun v H2 => v = .non ∧ Q (.ref x) H2) E0 := by
  intro x dx nx nd ne
  have g1 : Gr K H (upd (upd H dx (.own x)) x (.ins (rowC K) dx [])) := (Ge.new nd).trans (Ge.new (by rw [upd_ne ne.symm]; exact nx))
  refine ⟨x, dx, a, c, hs, cs, g, rfl, upd_same, g1.sq ha, g1.sq hc, h0, hz, hzh, fun H' e r t gr ct et he hr => ⟨rfl, ?_⟩⟩
  have hx' := gr.at (upd_same (H := upd H dx (.own x)) (a := x) (o := .ins (rowC K) dx []))
  have nex : ∀ b ys, H' b = some (.tup ys) → b ≠ x := fun b ys hb z => by rw [z, hx'] at hb; cases hb
  refine q x _ ⟨fun b o hb hn => ?_, fun tt => tabs_upd (gr.tab (g1.tab tt)) hx' (by intro _ z; cases z) (by intro _ z; cases z)⟩ ⟨t, ct, et, ⟨?_, ?_⟩, dx, e, r, upd_same, ?_, ?_⟩
  · rw [upd_ne (ne_of_none hb nx)]
    exact gr.ext b o (g1.ext b o hb hn) hn
  · exact Nat.le_trans (ct.head_le (q := cs.length) (G := g) h0 ((RW.ev_gains (t := ⟨hs, cs, g⟩) h0).congr fun n => (et n).symm)) hzh
  · exact Nat.le_trans (ct.min cs.length ⟨h0, g, hs.length, (RW.ev_gains (t := ⟨hs, cs, g⟩) h0).congr fun n => (et n).symm⟩) hz
  · rw [upd_ne (nex e _ he)]; exact he
  · rw [upd_ne (nex r _ hr)]; exact hr
/-! ### its methods -/
section
variable {H : Hp} {p : Addr} {f : Nat → Int}
/-- a row's fields -/
theorem IsRow.fields (h : IsRow K H p f) : ∃ t dx e r, RW.Canon t ∧ (∀ n, RW.ev t n = f n) ∧ (t.h.length ≤ 8000000 ∧ t.c.length ≤ 8000000) ∧ H p = some (.ins (rowC K) dx [("early", .ref e), ("round", .ref r), ("more", .int t.g)]) ∧ H e = some (.tup (t.h.map V.int)) ∧ H r = some (.tup (t.c.map V.int)) := by
  obtain ⟨t, c, e, z, dx, er, rr, h1, h2, h3⟩ := h
  exact ⟨t, dx, er, rr, c, e, z, h1, h2, h3⟩
end
theorem sc_m_value : FnScope ["self", "place", "many"] ["self", "place"] (defScope (inClass (topS 21) 1)) := ⟨rfl, rfl, rfl, by decide +kernel, rfl, by decide +kernel, by decide +kernel⟩
def spValue (K : PySem.W.Frag) : Sp := fun vs H Q _ => ∃ (p : Addr) (f : Nat → Int) (n : Nat), vs = [.ref p, .int n] ∧ IsRow K H p f ∧ n < 2 ^ 60 ∧ Q (.int (f n)) H
theorem ok_value (X : Txt K mg) : OkM P w K mg base CX0 1 "value" ["self", "place"] (spValue K) := by
  refine ok_met0 X 80 rfl sc_m_value (fun vs H Q E h => ?_) (fun _ _ _ _ _ _ us hl => match us, hl with | [_, _], _ => rfl) (fun f cdv A outer s H vs Q E hr h => ?_)
  · obtain ⟨x, f, n, rfl, _⟩ := h; rfl
  · obtain ⟨x, F, n, rfl, hR, hn, q⟩ := h
    obtain ⟨t, dx, e, r, ct, et, ⟨zh, zc⟩, hx, he, hr'⟩ := hR.fields
    refine ⟨_, (pss_cons (ps_set (i := 2) sc_m_value.nd rfl (.inl rfl) (pe_callB (len_K (K := K)) (by rfl) X.b_len (by decide +kernel) (pa_cons (fld_K (K := K) (pv 0)) pa_nil)))
  (pss_cons (ps_if (pt_cmpR op_lt (pv 1) (pv 2) (nomark _))
  (pss_one (ps_ret (pe_ix (ixT_K (K := K)) (fld_K (K := K) (pv 0)) (pv 1) (fun _ _ => rfl))))
  pss_nil)
  (pss_one (ps_ret (pe_op op_add (pe_ix (ixT_K (K := K)) (fld_K (K := K) (pv 0)) (pe_op op_mod (pe_op op_sub (pv 1) (pv 2)) (pe_callB (len_K (K := K)) (by rfl) X.b_len (by decide +kernel) (pa_cons (fld_K (K := K) (pv 0)) pa_nil))) (fun _ _ => rfl)) (pe_op op_mul (fld_K (K := K) (pv 0)) (pe_op op_fdiv (pe_op op_sub (pv 1) (pv 2)) (pe_callB (len_K (K := K)) (by rfl) X.b_len (by decide +kernel) (pa_cons (fld_K (K := K) (pv 0)) pa_nil))))))))), ?_⟩
    have ne := ct.ne
    refine ⟨_, rfl, x, _, dx, _, _, rfl, hx, X.cls, X.at1, rfl, e, _, rfl, .inr (.of he), ?_⟩
    rw [List.length_map]
    refine ⟨_, rfl, _, rfl, _, _, rfl, rfl, _, rfl, iteD (fun hlt => ?_) (fun hge => ?_)⟩
    · have hl : n < t.h.length := by omega
      refine ⟨_, rfl, x, _, dx, _, _, rfl, hx, X.cls, X.at1, rfl, ?_⟩
      refine ⟨_, rfl, e, _, _, _, rfl, rfl, .of he, atID hl, ?_⟩
      rw [← RW.ev_low hl, et]
      exact q
    · have hl : t.h.length ≤ n := by omega
      refine ⟨_, rfl, x, _, dx, _, _, rfl, hx, X.cls, X.at2, rfl, ?_⟩
      refine ⟨_, rfl, _, rfl, _, _, rfl, rfl, ?_⟩
      refine ⟨_, rfl, x, _, dx, _, _, rfl, hx, X.cls, X.at2, rfl, r, _, rfl, .inr (.of hr'), ?_⟩
      rw [List.length_map]
      have em : ((n : Int) - t.h.length) % t.c.length = (((n - t.h.length) % t.c.length : Nat) : Int) := by
        rw [show (n : Int) - t.h.length = ((n - t.h.length : Nat) : Int) by omega, Int.natCast_emod]
      have ed : ((n : Int) - t.h.length) / t.c.length = (((n - t.h.length) / t.c.length : Nat) : Int) := by
        rw [show (n : Int) - t.h.length = ((n - t.h.length : Nat) : Int) by omega, Int.natCast_ediv]
      have lt := Nat.mod_lt (n - t.h.length) ne
      refine ⟨_, _, rfl, rfl, by omega, r, _, _, _, rfl, rfl, .of hr', atID' (j := (n - t.h.length) % t.c.length) em lt, ?_⟩
      refine ⟨_, rfl, x, _, dx, _, _, rfl, hx, X.cls, X.at3, rfl, ?_⟩
      refine ⟨_, rfl, _, rfl, _, _, rfl, rfl, ?_⟩
      refine ⟨_, rfl, x, _, dx, _, _, rfl, hx, X.cls, X.at2, rfl, r, _, rfl, .inr (.of hr'), ?_⟩
      rw [List.length_map]
      have l60 : (n - t.h.length) / t.c.length ≤ n - t.h.length := Nat.div_le_self _ _
      refine ⟨_, _, rfl, rfl, ⟨by omega, by omega⟩, _, _, rfl, rfl, .inr ⟨?_, ?_⟩, _, _, rfl, rfl, ?_⟩
      · rw [ed]; generalize (n - t.h.length) / t.c.length = z at l60 ⊢; omega
      · rw [ed]; generalize (n - t.h.length) / t.c.length = z at l60 ⊢; omega
      · rw [← et, RW.ev_high hl] at q
        unfold RW.evc at q
        rw [ed]
        exact q
theorem sc_m_at : FnScope ["self", "number"] ["self", "number"] (defScope (inClass (topS 21) 2)) := ⟨rfl, rfl, rfl, by decide +kernel, rfl, by decide +kernel, by decide +kernel⟩
def spAt (K : PySem.W.Frag) : Sp := spValue K
theorem ok_at (X : Txt K mg) : OkM P w K mg base CX0 4 "at" ["self", "number"] (spAt K) := by
  refine ok_met0 X 81 rfl sc_m_at (fun vs H Q E h => ?_) (fun _ _ _ _ _ _ us hl => match us, hl with | [_, _], _ => rfl) (fun f cdv A outer s H vs Q E hr h => ?_)
  · obtain ⟨x, f, n, rfl, _⟩ := h; rfl
  · obtain ⟨x, F, n, rfl, hR, hn, q⟩ := h
    refine ⟨_, (pss_cons (ps_expr (pe_o (ok_check_number X) hr pass0 (pa_cons (pv 1) pa_nil)))
  (pss_one (ps_ret (m1_K X (by decide +kernel) (ok_value X) hr pass0 (pv 0) (pa_cons (pv 1) pa_nil))))), ?_⟩
    obtain ⟨t, dx, e, r, ct, et, ⟨zh, zc⟩, hx, he, hr'⟩ := hR.fields
    refine ⟨_, rfl, n, rfl, by omega, ?_⟩
    exact ⟨_, rfl, x, dx, _, rfl, hx, rfl, _, rfl, x, F, n, rfl, hR, hn, q⟩
theorem sc_m_upto : FnScope ["self", "number", "place"] ["self", "number"] (defScope (inClass (topS 21) 3)) := ⟨rfl, rfl, rfl, by decide +kernel, rfl, by decide +kernel, by decide +kernel⟩
def spUpto (K : PySem.W.Frag) : Sp := fun vs H Q _ => ∃ (p : Addr) (f : Nat → Int) (n : Nat), vs = [.ref p, .int n] ∧ IsRow K H p f ∧ n ≤ 16777216 ∧ ∀ H' l, Gr K H H' → H l = none → H' l = some (.lst (((List.range n).map f).map V.int)) → Q (.ref l) H'
theorem ok_upto (X : Txt K mg) : OkM P w K mg base CX0 4 "upto" ["self", "number"] (spUpto K) := by
  refine ok_met0 X 82 rfl sc_m_upto (fun vs H Q E h => ?_) (fun _ _ _ _ _ _ us hl => match us, hl with | [_, _], _ => rfl) (fun f cdv A outer s H vs Q E hr h => ?_)
  · obtain ⟨x, f, n, rfl, _⟩ := h; rfl
  · obtain ⟨x, F, n, rfl, hR, hn, q⟩ := h
    refine ⟨_, (pss_cons (ps_expr (pe_o (ok_check_number X) hr pass0 (pa_cons (pv 1) pa_nil)))
  (pss_one (ps_ret (pe_lc (own := [("place", 2)]) (g := (gName 2)) (tt := tYes) rfl sc_m_upto.nd (pi_range1 (by rfl) X.b_range (pa_cons (pv 1) pa_nil)) (blkOk_by (N := ["self", "number", "place"]) (sc := defScope (inClass (topS 21) 3)) (by decide +kernel)) (fun _ _ _ _ _ => (pg_name (i := 2) sc_m_upto.nd rfl (.inl rfl))) (fun _ _ _ _ _ => pts_nil) (fun _ _ _ _ _ => (m1_K X (by decide +kernel) (ok_value X) hr pass0 (pv 0) (pa_cons (pv 2) pa_nil))))))), ?_⟩
    refine ⟨_, rfl, n, rfl, by omega, ?_⟩
    refine ⟨_, rfl, n, rfl, by omega, by omega, fun D hD => ?_⟩
    rw [Int.toNat_natCast]
    refine lc_rng (K := K) (F := fun i => V.int (F i)) hD hn (fun i H4 Q4 hi g4 q4 => ?_) (fun H4 g4 h4 => ?_)
    · obtain ⟨t, dx, e, r, ct, et, ⟨zh, zc⟩, hx, he, hr'⟩ := (g4.row hR).fields
      refine ⟨rfl, _, rfl, x, dx, _, rfl, hx, rfl, _, rfl, x, F, i, ?_, g4.row hR, by omega, q4 _ (Ge.refl _)⟩
      show [V.ref x, V.int (0 + (i : Int))] = _
      rw [Int.zero_add]
    · exact q H4 D g4 hD (by rw [h4, List.map_map]; rfl)
/-- the row's triple, as head(), cycle(), gain() tell it -/
def spField (K : PySem.W.Frag) (fld : RW.Tri → List Int) : Sp := fun vs H Q _ => ∃ (p : Addr) (t : RW.Tri), vs = [.ref p] ∧ RowO K H p t ∧ ∀ H' l, Gr K H H' → H' l = some (.lst ((fld t).map V.int)) → Q (.ref l) H'
theorem sc_m_head : FnScope ["self"] ["self"] (defScope (inClass (topS 21) 4)) := ⟨rfl, rfl, rfl, by decide +kernel, rfl, by decide +kernel, by decide +kernel⟩
theorem ok_head (X : Txt K mg) : OkM P w K mg base CX0 1 "head" ["self"] (spField K RW.Tri.h) := by
  refine ok_met0 X 83 rfl sc_m_head (fun vs H Q E h => ?_) (fun _ _ _ _ _ _ us hl => match us, hl with | [_], _ => rfl) (fun f cdv A outer s H vs Q E hr h => ?_)
  · obtain ⟨x, f, rfl, _⟩ := h; rfl
  · obtain ⟨x, t, rfl, ⟨dx, e, r, hx, he, hr'⟩, q⟩ := h
    refine ⟨_, (pss_one (ps_ret (pe_callTy (list_K (K := K)) (by rfl) X.b_list (by decide +kernel) (pa_cons (fld_K (K := K) (pv 0)) pa_nil)))), ?_⟩
    exact ⟨_, rfl, x, _, dx, _, _, rfl, hx, X.cls, X.at1, rfl, e, _, rfl, .inr (.of he), fun l hl => q _ l (Ge.new hl) upd_same⟩
theorem sc_m_cycle : FnScope ["self"] ["self"] (defScope (inClass (topS 21) 5)) := ⟨rfl, rfl, rfl, by decide +kernel, rfl, by decide +kernel, by decide +kernel⟩
theorem ok_cycle (X : Txt K mg) : OkM P w K mg base CX0 1 "cycle" ["self"] (spField K RW.Tri.c) := by
  refine ok_met0 X 84 rfl sc_m_cycle (fun vs H Q E h => ?_) (fun _ _ _ _ _ _ us hl => match us, hl with | [_], _ => rfl) (fun f cdv A outer s H vs Q E hr h => ?_)
  · obtain ⟨x, f, rfl, _⟩ := h; rfl
  · obtain ⟨x, t, rfl, ⟨dx, e, r, hx, he, hr'⟩, q⟩ := h
    refine ⟨_, (pss_one (ps_ret (pe_callTy (list_K (K := K)) (by rfl) X.b_list (by decide +kernel) (pa_cons (fld_K (K := K) (pv 0)) pa_nil)))), ?_⟩
    exact ⟨_, rfl, x, _, dx, _, _, rfl, hx, X.cls, X.at2, rfl, r, _, rfl, .inr (.of hr'), fun l hl => q _ l (Ge.new hl) upd_same⟩
theorem sc_m_gain : FnScope ["self"] ["self"] (defScope (inClass (topS 21) 6)) := ⟨rfl, rfl, rfl, by decide +kernel, rfl, by decide +kernel, by decide +kernel⟩
def spGain (K : PySem.W.Frag) : Sp := fun vs H Q _ => ∃ (p : Addr) (t : RW.Tri), vs = [.ref p] ∧ RowO K H p t ∧ Q (.int t.g) H
theorem ok_gain (X : Txt K mg) : OkM P w K mg base CX0 1 "gain" ["self"] (spGain K) := by
  refine ok_met0 X 85 rfl sc_m_gain (fun vs H Q E h => ?_) (fun _ _ _ _ _ _ us hl => match us, hl with | [_], _ => rfl) (fun f cdv A outer s H vs Q E hr h => ?_)
  · obtain ⟨x, f, rfl, _⟩ := h; rfl
  · obtain ⟨x, t, rfl, ⟨dx, e, r, hx, he, hr'⟩, q⟩ := h
    refine ⟨_, (pss_one (ps_ret (fld_K (K := K) (pv 0)))), ?_⟩
    exact ⟨_, rfl, x, _, dx, _, _, rfl, hx, X.cls, X.at3, rfl, q⟩
theorem sc_m_rate : FnScope ["self"] ["self"] (defScope (inClass (topS 21) 7)) := ⟨rfl, rfl, rfl, by decide +kernel, rfl, by decide +kernel, by decide +kernel⟩
def spRate (K : PySem.W.Frag) : Sp := fun vs H Q _ => ∃ (p : Addr) (t : RW.Tri), vs = [.ref p] ∧ RowO K H p t ∧ 0 < t.c.length ∧ t.c.length ≤ 8000000 ∧ ∀ u, H u = none → Q (.ref u) (upd H u (.tup [.int (low t.g t.c.length).1, .int (low t.g t.c.length).2]))
theorem ok_rate (X : Txt K mg) : OkM P w K mg base CX0 2 "rate" ["self"] (spRate K) := by
  refine ok_met0 X 86 rfl sc_m_rate (fun vs H Q E h => ?_) (fun _ _ _ _ _ _ us hl => match us, hl with | [_], _ => rfl) (fun f cdv A outer s H vs Q E hr h => ?_)
  · obtain ⟨x, f, rfl, _⟩ := h; rfl
  · obtain ⟨x, t, rfl, ⟨dx, e, r, hx, he, hr'⟩, h0, hz, q⟩ := h
    refine ⟨_, (pss_one (ps_ret (pe_o (ok_lowest X) hr pass0 (pa_cons (fld_K (K := K) (pv 0)) (pa_cons (pe_callB (len_K (K := K)) (by rfl) X.b_len (by decide +kernel) (pa_cons (fld_K (K := K) (pv 0)) pa_nil)) pa_nil))))), ?_⟩
    refine ⟨_, rfl, x, _, dx, _, _, rfl, hx, X.cls, X.at3, rfl, ?_⟩
    refine ⟨_, rfl, x, _, dx, _, _, rfl, hx, X.cls, X.at2, rfl, r, _, rfl, .inr (.of hr'), ?_⟩
    rw [List.length_map]
    exact ⟨t.g, t.c.length, rfl, h0, by omega, q⟩
end
end K17
set_option Elab.async false
set_option linter.all false
set_option maxRecDepth 100000
set_option maxHeartbeats 4000000
/-! the lambda «the lower of two rows» -/
namespace K17
open PySem PySem.Spec PyProof.Rows L2 LamX NdefX
def rMin2 : List V → Hp → VK → Prop := fun xs H Q => ∃ i j, xs = [.int i, .int j] ∧ Q (.int (if j < i then j else i)) H
def tMinBody (K : PySem.W.Frag) : TE := tCB rMin2 (tCons (tMeth (rowC K) "value" (spValue K) [] E0 (tVar 1) (tCons (tVar 0) tNil)) (tCons (tMeth (rowC K) "value" (spValue K) [] E0 (tVar 2) (tCons (tVar 0) tNil)) tNil))
abbrev lowF (F G : Nat → Int) : Nat → Int := fun n => if G n < F n then G n else F n
abbrev lamN : List Str := ["number", "one", "other"]
/-- the captured cells: exactly these two -/
structure Two (cl : List (Str × Addr)) (a1 a2 : Addr) : Prop where
  one : cl.lookup ("one" : Str) = some a1
  two : cl.lookup ("other" : Str) = some a2
  only : ∀ y c, cl.lookup y = some c → (y = "one" ∧ c = a1) ∨ (y = "other" ∧ c = a2)
  ne : a1 ≠ a2
section
variable {P : Program} {w : World} {K : PySem.W.Frag} {mg : Str → Option Value} {base : Heap} {H : Hp} {f c' p q a1 a2 : Addr} {o1 o2 : Obj} {F G : Nat → Int} {qual : Str} {params : Arguments} {body : Expr} {scope : Scope} {cl : List (Str × Addr)} {pm ctv : Value}
theorem fvg_min (S : NScope lamN ["number"] ["one", "other"] scope) (hbind : ∀ (cl : List (Str × Addr)) (pm cv ctv : Value) (u : Value), bindArgs (PySem.W.kla_fn "<lambda>" qual params body scope cl pm cv ctv) ⟨[u], []⟩ = pure [(("number" : Str), u)])
    (hbody : ∀ (A : Around) (outer : List Env) (s : Shared) (H : Hp) (E : XK) (f c' : Addr) (cl : List (Str × Addr)), Room 1 (A.deeper (envF ⟨"<lambda>", qual, params, [], scope, cl, c'⟩ f s.heap.objs.size)) → PE (ncx CX0 P w K mg base lamN ⟨"<lambda>", qual, params, [], scope, cl, c'⟩ f A outer s H E).nox body (tMinBody K))
    (hf : H f = some (pinO (PySem.W.kla_obj "<lambda>" qual params body scope cl pm c' ctv)) ∨ base.get? f = some (PySem.W.kla_obj "<lambda>" qual params body scope cl pm c' ctv)) (hc : H c' = some (CodeO c' qual)) (T : Two cl a1 a2)
    (h1 : H a1 = some (pinO o1)) (d1 : o1.data = .cell (some (.ref p))) (h2 : H a2 = some (pinO o2)) (d2 : o2.data = .cell (some (.ref q))) (r1 : IsRow K H p F) (r2 : IsRow K H q G) :
    FvG P w K mg base 2 H f (lowF F G) := by
  have get : ∀ {H' : Hp} {A : Around} {outer : List Env} {s : Shared}, Gr K H H' → Env0 P w K mg base A outer s H' → s.heap.get? f = some (PySem.W.kla_obj "<lambda>" qual params body scope cl pm c' ctv) := fun g e0 => by
    rcases hf with hf | hf
    · exact (e0.hok f _ (g.at hf)).1
    · exact (e0.bs f _ hf).1
  refine ⟨fun H' A outer s g e0 => ?_, fun H' A outer s n u Q E g hr e0 hn ru hq => ?_⟩
  · have ho := get g e0
    exact ⟨_, _, _, _, ho⟩
  · have ho := get g e0
    obtain ⟨ho1, _⟩ := e0.hok a1 _ (g.at h1)
    obtain ⟨ho2, _⟩ := e0.hok a2 _ (g.at h2)
    have lk : ∀ (l : List (Addr × Obj)), l = [(a1, o1), (a2, o2)] → ∀ a o, l.lookup a = some o → (a = a1 ∧ o = o1) ∨ (a = a2 ∧ o = o2) := by
      rintro l rfl a o e
      by_cases z1 : a = a1
      · subst z1
        simp [List.lookup] at e
        exact .inl ⟨rfl, e.symm⟩
      · by_cases z2 : a = a2
        · subst z2
          simp [List.lookup, z1] at e
          have : (a == a1) = false := by simpa using z1
          rw [this] at e
          exact .inr ⟨rfl, (Option.some.inj e).symm⟩
        · have x1 : (a == a1) = false := by simpa using z1
          have x2 : (a == a2) = false := by simpa using z2
          simp [List.lookup, x1, x2] at e
    generalize hl : ([(a1, o1), (a2, o2)] : List (Addr × Obj)) = l at lk
    have lk := lk l rfl
    have fz : ∀ a o, l.lookup a = some o → H' a = some (pinO o) := fun a o e => by
      rcases lk a o e with ⟨rfl, rfl⟩ | ⟨rfl, rfl⟩
      · exact g.at h1
      · exact g.at h2
    have in1 : l.lookup a1 = some o1 := by rw [← hl]; simp
    have in2 : l.lookup a2 = some o2 := by
      rw [← hl]
      have : (a2 == a1) = false := by simp; exact fun z => T.ne z.symm
      simp [List.lookup, this]
    have e1 := env0_uncover e0 fz
    have kept : ∀ b o, (∀ ob, o ≠ pinO ob) → H' b = some o → uncover H' l b = some o := fun b o n e => by
      cases z : l.lookup b with
      | some ob => rw [fz b ob z] at e; exact absurd (Option.some.inj e).symm (n ob)
      | none => rw [uncover_out z]; exact e
    have rowU : ∀ {x : Addr} {F : Nat → Int}, IsRow K H x F → IsRow K (uncover H' l) x F := fun {x F} r => by
      obtain ⟨t, ct, et, z, dx, e, rr, x1, x2, x3⟩ := g.row r
      exact ⟨t, ct, et, z, dx, e, rr, kept _ _ (fun _ z => by cases z) x1, kept _ _ (fun _ z => by cases z) x2, kept _ _ (fun _ z => by cases z) x3⟩
    have C : CellsAt cl ["one", "other"] [some (.ref p), some (.ref q)] s.heap (uncover H' l) := by
      refine ⟨rfl, fun y c e => ?_, fun x y c e e' => ?_, fun i y e => ?_⟩
      · rcases T.only y c e with ⟨rfl, rfl⟩ | ⟨rfl, rfl⟩
        · exact ⟨uncover_in in1, _, _, ho1, d1⟩
        · exact ⟨uncover_in in2, _, _, ho2, d2⟩
      · rcases T.only x c e with ⟨rfl, rfl⟩ | ⟨rfl, rfl⟩
        · rcases T.only y _ e' with ⟨rfl, _⟩ | ⟨_, z⟩
          · rfl
          · exact absurd z T.ne
        · rcases T.only y _ e' with ⟨_, z⟩ | ⟨rfl, _⟩
          · exact absurd z.symm T.ne
          · rfl
      · match i, e with
        | 0, e =>
          cases e
          exact ⟨a1, T.one, fun v ev => by cases ev; exact ⟨.ref p, rfl, _, ho1, d1⟩⟩
        | 1, e =>
          cases e
          exact ⟨a2, T.two, fun v ev => by cases ev; exact ⟨.ref q, rfl, _, ho2, d2⟩⟩
        | i + 2, e => simp at e
    have lim : s.heap.NoLimit := e0.mod.nolimit.keeps fun b o e => (e0.bs b o e).1
    have rc : codeAny (model P w) A (.call (.ref f) ⟨[u], []⟩) (CR CX0 outer P w (uncover H' l) s (fun v Hm => v = .int (lowF F G n) ∧ Hm = uncover H' l) E0) s := by
      refine PySem.W.kla_callFunE hr.depth ho rfl S.co S.gen rfl (codeO_at e0.hok (g.at hc (codeO_ne))) ?_
      rw [hbind]
      refine wpAny_pure (wpAny_newFunctionEnv S.nocell (fun y hy => by
        rcases List.mem_cons.mp hy with rfl | z
        · exact S.par "number" (List.mem_cons_self)
        · cases z) (fun h₁ hns hsb => ⟨lim.fresh _ hsb, ?_⟩) S.kind)
      show codeAny _ _ (.expr body (envF ⟨"<lambda>", qual, params, [], scope, cl, c'⟩ f s.heap.objs.size)) _ _
      have kp : ∀ b o, s.heap.get? b = some o → h₁.get? b = some o := fun b o e => hsb.extBut b o (Nat.ne_of_lt (Heap.lt_size e)) (Heap.get?_push_of_some _ e)
      have I : Inv (ncx CX0 P w K mg base lamN ⟨"<lambda>", qual, params, [], scope, cl, c'⟩ f A outer s (uncover H' l) E0) [] (startF lamN [.int n] [some (.ref p), some (.ref q)]) (uncover H' l) { s with heap := h₁, toks := s.toks + ([(("number" : Str), u)] : List (Str × Value)).length } :=
        inv_startN (us := [u]) (F := ⟨"<lambda>", qual, params, [], scope, cl, c'⟩) S hr.hd e1 rfl (.cons ru .nil) C hns kp
      refine PySem.W.kla_codeExpr (wpAny_mono ((hbody A outer s (uncover H' l) E0 f c' cl (hr.deeper _)).nox.run [] _ _ (uncover H' l) (fun v Hm => v = .int (lowF F G n) ∧ Hm = uncover H' l) I ?_) (fun v s' hq => ?_) fun e s' hq => hq)
      · have R1 := rowU r1
        have R2 := rowU r2
        obtain ⟨t1, dx1, x1, y1, _, _, _, z1, _, _⟩ := R1.fields
        obtain ⟨t2, dx2, x2, y2, _, _, _, z2, _, _⟩ := R2.fields
        refine ⟨_, rfl, p, dx1, _, rfl, z1, rfl, _, rfl, p, F, n, rfl, R1, hn, ?_⟩
        refine ⟨_, rfl, q, dx2, _, rfl, z2, rfl, _, rfl, q, G, n, rfl, R2, hn, ?_⟩
        exact ⟨F n, G n, rfl, rfl, rfl⟩
      · obtain ⟨w', H2, J', rv, q⟩ := hq
        exact ⟨w', H2, J'.os, J'.bare, J'.base, J'.hok, rv, q⟩
    refine codeAny_mono rc fun r s' z => ?_
    cases r with
    | error e => exact (show False from z).elim
    | ok fl =>
      cases fl with
      | ret v =>
        have c2 := ce_cover (show CE outer P w (uncover H' l) s _ v s' from z) e0.hok e0.frf fz
        obtain ⟨v2, H2, b1, b2, b3, b4, b5, H3, rfl, rfl, rfl⟩ := c2
        have e : cover (uncover H' l) l = H' := by
          funext b
          cases z : l.lookup b with
          | some o => rw [cover_in z, fz b o z]
          | none => rw [cover_out z, uncover_out z]
        rw [e] at b3 b4
        exact ⟨_, H', b1, b2, b3, b4, b5, hq⟩
      | next => exact False.elim z
      | brk => exact False.elim z
      | cont => exact False.elim z
end
end K17
set_option Elab.async false
set_option linter.all false
set_option maxRecDepth 100000
set_option maxHeartbeats 4000000
namespace K17
open PySem PySem.Spec PyProof.Rows L2 LamX
section
variable {P : Program} {w : World} {K : PySem.W.Frag} {mg : Str → Option Value} {base : Heap}
theorem rng_take {α : Type} (F : Nat → α) (a b : Nat) : ((List.range (a + b)).map F).take a = (List.range a).map F := by
  apply List.ext_getElem
  · simp
  · intro i h1 h2; simp
theorem rng_drop {α : Type} (F : Nat → α) (a b : Nat) : ((List.range (a + b)).map F).drop a = (List.range b).map fun i => F (a + i) := by
  apply List.ext_getElem
  · simp
  · intro i h1 h2; simp
/-- a slice of a list: a new one -/
theorem slL {H : Hp} {a : Addr} {xs ys : List V} {lo hi : Option Int} {Q : VK} (h : H a = some (.lst xs)) (e : cutV xs lo hi = ys) (q : ∀ p, H p = none → Q (.ref p) (upd H p (.lst ys))) : RSlL1 K (.ref a) lo hi H Q :=
  ⟨a, xs, rfl, .of h, fun p hp => by rw [e]; exact q p hp⟩
theorem sc_row_by : FnScope ["value_of", "place", "size", "gain", "values", "number"] ["value_of", "place", "size", "gain"] (defScope (topS 22)) := ⟨rfl, rfl, rfl, by decide +kernel, rfl, by decide +kernel, by decide +kernel⟩
def spRowBy (P : Program) (w : World) (K : PySem.W.Frag) (mg : Str → Option Value) (base : Heap) : Sp := fun vs H Q _ => ∃ (f : Addr) (G : Nat → Int) (place size : Nat) (gain : Int), vs = [.ref f, .int place, .int size, .int gain] ∧ FvG P w K mg base 2 H f G ∧ 0 < size ∧ place + size ≤ 8000000 ∧
  ∀ r H', Gr K H H' → IsRow K H' r (RW.ev ⟨(List.range place).map G, (List.range size).map fun i => G (place + i), gain⟩) → Q (.ref r) H'
theorem ok_row_by (X : Txt K mg) : Ok P w K mg base CX0 6 "row_by" ["value_of", "place", "size", "gain"] (spRowBy P w K mg base) := by
  refine ok_def0 X 9 rfl sc_row_by (by decide +kernel) (fun vs H Q E h => ?_) (fun _ _ _ _ _ _ us hl => match us, hl with | [_, _, _, _], _ => rfl) (fun f cdv A outer s H vs Q E hr h => ?_)
  · obtain ⟨x, G, a, b, c, rfl, _⟩ := h; rfl
  · obtain ⟨x, G, place, size, gain, rfl, hF, h0, hz, q⟩ := h
    refine ⟨_, (pss_cons (ps_setLc (i := 4) (own := [("number", 5)]) (g := (gName 5)) (tt := tYes) rfl sc_row_by.nd rfl rfl (sw_true rfl rfl rfl (by decide +kernel)) (pi_range1 (by rfl) X.b_range (pa_cons (pe_op op_add (pv 1) (pv 2)) pa_nil)) (blkOk_by (N := ["value_of", "place", "size", "gain", "values", "number"]) (sc := defScope (topS 22)) (by decide +kernel)) (fun _ _ _ _ _ => (pg_name (i := 5) sc_row_by.nd rfl (.inl rfl))) (fun _ _ _ _ _ => pts_nil) (fun _ _ _ _ _ => (pe_fvK (P := P) (w := w) (K := K) (mg := mg) (base := base) (j := 2) (i := 0) hr (by decide) rfl (by first | exact Or.inl rfl | exact Or.inr (Or.inl rfl) | exact Or.inr (Or.inr rfl)) (pa_cons (pv 5) pa_nil))))
  (pss_one (ps_ret (row_K X (ok_init X) hr pass0 (pa_cons (pe_slice (slL_K (K := K)) (pv 4) po_none (po_some (pv 1))) (pa_cons (pe_slice (slL_K (K := K)) (pv 4) (po_some (pv 1)) po_none) (pa_cons (pv 3) pa_nil))))))), ?_⟩
    refine ⟨_, rfl, _, rfl, _, _, rfl, rfl, ?_⟩
    refine ⟨(place + size : Nat), by simp, by simp; omega, by omega, fun D hD => ?_⟩
    rw [show ((place + size : Nat) : Int).toNat = place + size by omega]
    refine lc_rng (K := K) (F := fun i => V.int (G i)) hD (by omega) (fun i H4 Q4 hi g4 q4 => ?_) (fun H4 g4 h4 => ?_)
    · refine ⟨rfl, x, G, rfl, hF.gr g4, ?_⟩
      refine ⟨_, rfl, Ge.refl _, i, ?_, by omega, q4 _ (Ge.refl _)⟩
      show [V.int (0 + (i : Int))] = _
      rw [Int.zero_add]
    · refine ⟨_, rfl, ?_⟩
      refine ⟨_, rfl, _, rfl, slL (ys := ((List.range place).map G).map V.int) h4 ?_ fun l5 n5 => ?_⟩
      · rw [cut_take (by simp), rng_take, List.map_map]; rfl
      refine ⟨_, rfl, _, rfl, _, rfl, D, _, rfl, .of ((Ge.new (T := tbs K) n5).lst h4), fun l6 n6 => ?_⟩
      rw [show cutV ((List.range (place + size)).map fun i => V.int (G i)) (some (place : Int)) none = ((List.range size).map fun i => G (place + i)).map V.int by rw [cut_drop (by simp), rng_drop, List.map_map]; rfl]
      have g6 : Gr K H (upd (upd H4 l5 (HO.lst (((List.range place).map G).map V.int))) l6 (HO.lst (((List.range size).map fun i => G (place + i)).map V.int))) := (g4.trans (Ge.new n5)).trans (Ge.new n6)
      refine ⟨_, rfl, fun x dx nx nd ne => ?_⟩
      refine mkRow (.inl ?_) (.inl upd_same) (by simpa using h0) (by simp; omega) (by simp; omega) (fun p H' g7 r7 => q p H' (g6.trans g7) r7) x dx nx nd ne
      rw [upd_ne (ne_of_none upd_same n6)]
      exact upd_same
end
end K17
set_option Elab.async false
set_option linter.all false
set_option maxRecDepth 100000
set_option maxHeartbeats 4000000
/-! row_by(lambda number: .., place, size, gain): the maker's rule -/
namespace K17
open PySem PySem.Spec PyProof.Rows L2 LamX NdefX
def tRowBy (K : PySem.W.Frag) (j1 j2 : Nat) (t : TA) : TE := fun σ H Q => Tabs (tbs K) H ∧ ∃ p q F G, σ[j1]? = some (some (.ref p)) ∧ σ[j2]? = some (some (.ref q)) ∧ IsRow K H p F ∧ IsRow K H q G ∧
  ∀ H1, Gr K H H1 → t σ H1 fun vs H2 => Gr K H1 H2 ∧ ∃ (place size : Nat) (gain : Int), vs = [.int place, .int size, .int gain] ∧ 0 < size ∧ place + size ≤ 8000000 ∧
    ∀ r H3, Gr K H2 H3 → IsRow K H3 r (RW.ev ⟨(List.range place).map (lowF F G), (List.range size).map fun i => lowF F G (place + i), gain⟩) → Q (.ref r) H3
section
variable {X : Cx} {pins : List (Addr × Obj)} {σ : L2.St} {H : Hp} {s : Shared}
theorem stack_lt (I : Inv X pins σ H s) {a : Addr} (h1 : a ≠ X.env.locals) (h2 : a ∉ X.fs) : a ∉ frs X.stack := fun z => by
  rcases List.mem_cons.mp (I.stkSub a z) with e | e
  · exact h1 e
  · exact h2 e
/-- a captured name's cell -/
theorem cell_at (I : Inv X pins σ H s) (hfn : ∀ x, X.fn x = true) {j : Nat} {x : Str} {p : Addr} (hN : X.N[j]? = some x) (hs : σ[j]? = some (some (.ref p))) (hk : X.env.scope.names.lookup x = some .cell) :
    ∃ c o, X.env.cells.lookup x = some c ∧ s.heap.get? c = some o ∧ o.data = .cell (some (.ref p)) ∧ H c = none ∧ X.base.get? c = none ∧ c ∉ frs X.stack := by
  obtain ⟨m, hn, hl⟩ := I.loc
  obtain ⟨u, r, l⟩ := hl j x _ hN hs (.inr (.inl hk))
  obtain rfl : u = .ref p := r
  rcases l with ⟨k, _⟩ | ⟨_, c, hc, o, ho, hd⟩
  · have k : X.env.scope.names.lookup x = some .local := k
    rw [hk] at k; cases k
  · have ab : X.s_0.heap.objs.size ≤ c := I.ok.cab x c (hfn x) hc
    refine ⟨c, o, hc, ho, hd, I.freeC x c hc, ?_, stack_lt I (I.cne x c hc) fun z => ?_⟩
    · exact Heap.get?_none_of_le (Nat.le_trans I.ok.bsz ab)
    · obtain ⟨_, o2, h2, _⟩ := I.ok.funs.mem z
      exact absurd (Nat.lt_of_lt_of_le (Heap.lt_size h2) ab) (Nat.lt_irrefl _)
end
section
variable {X : Cx} {k j1 j2 : Nat} {c P : Addr} {params : Arguments} {body : Expr} {scope : Scope} {e2 e3 e4 : Expr} {t : TA} {p lpos pos : Pos} {q : Str}
theorem pe_rowby (T : Txt X.K X.mg) (hr : Room k X.A) (hk : 6 ≤ k) (TB : TabB X.base X.mg c P) (hcode : X.env.code = .ref c) (hq : X.env.qual ++ "<lambda>" = q) (hm : (P, q) ∈ tbs X.K) (hu : ∀ p ∈ tbs X.K, p.1 = P → p.2 = q)
    (S : NScope lamN ["number"] ["one", "other"] scope) (hbind : ∀ (cl : List (Str × Addr)) (pm cv ctv : Value) (u : Value), bindArgs (PySem.W.kla_fn "<lambda>" q params body scope cl pm cv ctv) ⟨[u], []⟩ = pure [(("number" : Str), u)])
    (hbody : ∀ (A : Around) (outer : List Env) (s : Shared) (H : Hp) (E : XK) (f c' : Addr) (cl : List (Str × Addr)), Room 1 (A.deeper (envF ⟨"<lambda>", q, params, [], scope, cl, c'⟩ f s.heap.objs.size)) → PE (ncx CX0 X.prog X.w X.K X.mg X.base lamN ⟨"<lambda>", q, params, [], scope, cl, c'⟩ f A outer s H E).nox body (tMinBody X.K))
    (hdef : defaultsOf params X.env = ([], [])) (hfn : ∀ x, X.fn x = true) (hN1 : X.N[j1]? = some "one") (hN2 : X.N[j2]? = some "other") (hc1 : X.env.scope.names.lookup ("one" : Str) = some .cell) (hc2 : X.env.scope.names.lookup ("other" : Str) = some .cell)
    (ha : PA X [e2, e3, e4] t) (hg : Gl X "row_by" := by rfl)
    (he : starEach (.Lambda params body scope lpos :: [e2, e3, e4]) X.env = (false, eval (.Lambda params body scope lpos) X.env) :: starEach [e2, e3, e4] X.env := by rfl)
    (hpl : (backTo pos (starEach [e2, e3, e4] X.env)).any (·.1) = false := by rfl) :
    PE X (.Call (.Name "row_by" p) [.Lambda params body scope lpos, e2, e3, e4] [] pos) (tRowBy X.K j1 j2 t) := by
  obtain ⟨⟨fd, F, bnd⟩, kp, gm⟩ := ok_row_by (P := X.prog) (w := X.w) (base := X.base) T
  refine ⟨fun pins s σ H Q I h => ?_⟩
  obtain ⟨hT, a, b, F1, F2, s1, s2, r1, r2, ht⟩ := h
  have hfree : ∀ y ∈ scope.names, y.2 = .free → ∃ c, X.env.cells.lookup y.1 = some c := fun y hy e => by
    have := S.free y hy e
    rcases List.mem_cons.mp this with z | z
    · rw [z]; exact I.ok.has _ (.inl hc1)
    · rcases List.mem_cons.mp z with z | z
      · rw [z]; exact I.ok.has _ (.inl hc2)
      · cases z
  subst hq
  refine wpAny_Call_Name_kw (ld_glob I hg gm ?_ (by decide))
  refine PySem.W.callWith_K (h₀ := X.base) I.ok.mod.kin kp ?_ he hpl
  show wpAny _ _ (spliced ((false, eval (.Lambda params body scope lpos) X.env) :: backTo pos (starEach [e2, e3, e4] X.env))) _ _ s
  refine Calls.spliced_cons (lam_make2 I TB hcode hm hu hT hdef hfree fun f c' pm' ctv H1 s' I1 eN T1 hf hfn' hfr hco => ?_)
  have gr1 : Gr X.K H H1 := ⟨eN, fun _ => T1⟩
  have nl : f ≠ X.env.locals := fun z => by
    obtain ⟨m, ⟨o', es, ep, ho', hd', _⟩, _⟩ := I1.loc
    rw [← z, hf] at ho'
    cases ho'
    cases hd'
  have nfs : f ∉ X.fs := fun z => by
    rcases I1.ok.stk with e | ⟨e, hfm⟩
    · rw [e] at hfr; exact hfr z
    · rw [e] at hfr
      refine hfr ?_
      unfold frs
      rw [List.filterMap_cons, hfm]
      exact List.mem_cons_of_mem _ z
  have I1' : Inv X ((f, PySem.W.kla_obj "<lambda>" (X.env.qual ++ "<lambda>") params body scope (cloFrom X.env.cells scope.names []) pm' c' ctv) :: pins) σ H1 s' := I1.pins_of fun q hq => by
    rcases List.mem_cons.mp hq with rfl | hq
    · exact ⟨hf, hfn', nl, nfs, fun v z => by cases z⟩
    · exact I1.pin q (List.mem_append_right _ hq)
  refine thn (ha.run pos _ s' σ H1 _ I1' (ht H1 gr1)) fun us s2' ⟨vs, H2, I2, r, g2, place, size, gain, ev, h0, hz, q⟩ => ⟨I2.kIn, ?_⟩
  obtain ⟨hf2, hfn2, _⟩ := I2.pin _ (List.mem_append_right _ (List.mem_cons_self))
  obtain ⟨a1, o1, x1, y1, d1, n1, b1, f1⟩ := cell_at I2 hfn hN1 s1 hc1
  obtain ⟨a2, o2, x2, y2, d2, n2, b2, f2⟩ := cell_at I2 hfn hN2 s2 hc2
  have n12 : a1 ≠ a2 := fun z => by
    rw [← z] at x2
    have := I2.ok.inj _ _ a1 x1 x2
    exact absurd this (by decide)
  have m1 := clo_has hfree (PySem.mem_of_lookup (S.frk "one" (by simp))) x1
  have m2 := clo_has hfree (PySem.mem_of_lookup (S.frk "other" (by simp))) x2
  have TT : Two (cloFrom X.env.cells scope.names []) a1 a2 := ⟨m1, m2, fun y c e => (by
    have e2 := clo_cm hfree e
    have hy : (y, NameKind.free) ∈ scope.names := by
      rcases cloFrom_mem (PySem.mem_of_lookup e) with hm | ⟨h1, _⟩
      · cases hm
      · exact h1
    have := S.free _ hy rfl
    rcases List.mem_cons.mp this with z | z
    · have z : y = "one" := z
      subst z
      rw [x1] at e2
      exact .inl ⟨rfl, (Option.some.inj e2).symm⟩
    · rcases List.mem_cons.mp z with z | z
      · have z : y = "other" := z
        subst z
        rw [x2] at e2
        exact .inr ⟨rfl, (Option.some.inj e2).symm⟩
      · cases z), n12⟩
  -- what is covered
  obtain ⟨l, lp, l1, l2, lf⟩ : ∃ l : List (Addr × Obj), (∀ a o, l.lookup a = some o → s2'.heap.get? a = some o ∧ H2 a = none ∧ X.base.get? a = none ∧ a ∉ frs X.stack) ∧ l.lookup a1 = some o1 ∧ l.lookup a2 = some o2 ∧
      (l.lookup f = some (PySem.W.kla_obj "<lambda>" (X.env.qual ++ "<lambda>") params body scope (cloFrom X.env.cells scope.names []) pm' c' ctv) ∨ X.base.get? f = some (PySem.W.kla_obj "<lambda>" (X.env.qual ++ "<lambda>") params body scope (cloFrom X.env.cells scope.names []) pm' c' ctv)) := by
    have e21 : (a2 == a1) = false := by simpa using Ne.symm n12
    have base2 : ∀ a o, ([(a1, o1), (a2, o2)] : List (Addr × Obj)).lookup a = some o → s2'.heap.get? a = some o ∧ H2 a = none ∧ X.base.get? a = none ∧ a ∉ frs X.stack := fun a o e => by
      by_cases z1 : a = a1
      · subst z1
        simp [List.lookup] at e
        rw [← e]; exact ⟨y1, n1, b1, f1⟩
      · by_cases z2 : a = a2
        · subst z2
          have : (a == a1) = false := by simpa using z1
          simp [List.lookup, this] at e
          rw [← e]; exact ⟨y2, n2, b2, f2⟩
        · have q1 : (a == a1) = false := by simpa using z1
          have q2 : (a == a2) = false := by simpa using z2
          simp [List.lookup, q1, q2] at e
    cases qb : X.base.get? f with
    | some ob =>
      refine ⟨[(a1, o1), (a2, o2)], base2, by simp [List.lookup], by simp [List.lookup, e21], .inr ?_⟩
      have := (I2.bs f ob qb).1
      rw [hf2] at this
      exact this.symm
    | none =>
      have nf1 : f ≠ a1 := fun z => by
        rw [z, y1] at hf2
        rw [Option.some.inj hf2] at d1; cases d1
      have nf2 : f ≠ a2 := fun z => by
        rw [z, y2] at hf2
        rw [Option.some.inj hf2] at d2; cases d2
      have q1 : (a1 == f) = false := by simpa using Ne.symm nf1
      have q2 : (a2 == f) = false := by simpa using Ne.symm nf2
      refine ⟨(f, _) :: [(a1, o1), (a2, o2)], fun a o e => ?_, by simp [List.lookup, q1], by simp [List.lookup, q2, e21], .inl (by simp [List.lookup]; rfl)⟩
      by_cases z1 : a = f
      · subst z1
        simp [List.lookup] at e
        rw [← e]; exact ⟨hf2, hfn2, qb, stack_lt I2 nl nfs⟩
      · have q : (a == f) = false := by simpa using z1
        rw [List.lookup, q] at e
        exact base2 a o e
  have lh : ∀ a o, l.lookup a = some o → s2'.heap.get? a = some o ∧ H2 a = none := fun a o e => ⟨(lp a o e).1, (lp a o e).2.1⟩
  have ln : ∀ a o, l.lookup a = some o → H2 a = none := fun a o e => (lp a o e).2.1
  have e0 := env0_cover I2.env0 lh (fun a o e => (lp a o e).2.2.1) (fun a o e => (lp a o e).2.2.2)
  have gr2 : Gr X.K H1 H2 := g2
  have cov : ∀ {p : Addr} {F : Nat → Int}, IsRow X.K H p F → IsRow X.K (cover H2 l) p F := fun {p F} r => by
    obtain ⟨t, ct, et, z, dx, e, rr, x1, x2, x3⟩ := (gr1.trans gr2).row r
    exact ⟨t, ct, et, z, dx, e, rr, cover_of ln x1, cover_of ln x2, cover_of ln x3⟩
  have FV : FvG X.prog X.w X.K X.mg X.base 2 (cover H2 l) f (lowF F1 F2) :=
    fvg_min S hbind hbody (lf.imp (fun e => cover_in e) id) (cover_of ln (gr2.at hco codeO_ne)) TT (cover_in l1) d1 (cover_in l2) d2 (cov r1) (cov r2)
  subst ev
  have rc : codeAny (model X.prog X.w) X.A (.call (.ref (He.ga X.K "row_by")) ⟨.ref f :: us, []⟩) (CR CX0 X.stack X.prog X.w (cover H2 l) s2' (fun v H' => (∀ a o, l.lookup a = some o → H' a = some (pinO o)) → Q v (uncover H' l)) E0) s2' := by
    refine F.run X.A X.stack s2' (cover H2 l) ⟨.ref f :: us, []⟩ (.ref f :: us) [.ref f, .int place, .int size, .int gain] _ E0 (hr.mono hk) e0 ?_ (.cons rfl r) ?_
    · have := bnd s2' (.ref f :: us) I2.kIn (by rw [List.append_nil]; show us.length + 1 = 4; rw [← r.length]; rfl)
      rw [List.append_nil] at this
      exact this
    · refine ⟨f, lowF F1 F2, place, size, gain, rfl, FV, h0, hz, fun r0 H' g r' pz => ?_⟩
      exact q r0 _ (ge_uncover ln pz g) (row_uncover pz r')
  refine wpAny_call (codeAny_mono rc fun r s3 hq => ?_)
  cases r with
  | error e => exact (show False from hq).elim
  | ok fl =>
    cases fl with
    | ret u =>
      obtain ⟨v, H3, b1, b2, b3, b4, b5, H4, e, pz, q4⟩ := ce_uncover (show CE X.stack X.prog X.w (cover H2 l) s2' _ u s3 from hq) lh
      subst e
      have I2' : Inv X pins σ H2 s2' := I2.pins_of fun p hp => I2.pin p (List.mem_append_right _ (List.mem_cons_of_mem _ hp))
      exact I2'.after ⟨v, _, b1, b2, b3, b4, b5, q4 pz⟩
    | next => exact False.elim hq
    | brk => exact False.elim hq
    | cont => exact False.elim hq
theorem pe_rowbyK {K : PySem.W.Frag} {mg : Str → Option Value} (T : Txt K mg) (hr : Room k X.A) (hk : 6 ≤ k) (TB : TabB X.base mg c P) (hcode : X.env.code = .ref c) (hq : X.env.qual ++ "<lambda>" = q) (hm : (P, q) ∈ tbs K) (hu : ∀ p ∈ tbs K, p.1 = P → p.2 = q)
    (S : NScope lamN ["number"] ["one", "other"] scope) (hbind : ∀ (cl : List (Str × Addr)) (pm cv ctv : Value) (u : Value), bindArgs (PySem.W.kla_fn "<lambda>" q params body scope cl pm cv ctv) ⟨[u], []⟩ = pure [(("number" : Str), u)])
    (hbody : ∀ (A : Around) (outer : List Env) (s : Shared) (H : Hp) (E : XK) (f c' : Addr) (cl : List (Str × Addr)), Room 1 (A.deeper (envF ⟨"<lambda>", q, params, [], scope, cl, c'⟩ f s.heap.objs.size)) → PE (ncx CX0 X.prog X.w K mg X.base lamN ⟨"<lambda>", q, params, [], scope, cl, c'⟩ f A outer s H E).nox body (tMinBody K))
    (hdef : defaultsOf params X.env = ([], [])) (hfn : ∀ x, X.fn x = true) (hN1 : X.N[j1]? = some "one") (hN2 : X.N[j2]? = some "other") (hc1 : X.env.scope.names.lookup ("one" : Str) = some .cell) (hc2 : X.env.scope.names.lookup ("other" : Str) = some .cell)
    (ha : PA X [e2, e3, e4] t) (hK : X.K = K := by rfl) (hmg : X.mg = mg := by rfl) (hg : Gl X "row_by" := by rfl)
    (he : starEach (.Lambda params body scope lpos :: [e2, e3, e4]) X.env = (false, eval (.Lambda params body scope lpos) X.env) :: starEach [e2, e3, e4] X.env := by rfl)
    (hpl : (backTo pos (starEach [e2, e3, e4] X.env)).any (·.1) = false := by rfl) :
    PE X (.Call (.Name "row_by" p) [.Lambda params body scope lpos, e2, e3, e4] [] pos) (tRowBy K j1 j2 t) := by
  subst hK; subst hmg
  exact pe_rowby T hr hk TB hcode hq hm hu S hbind hbody hdef hfn hN1 hN2 hc1 hc2 ha hg he hpl
end
/-! ### a def that makes functions: its code object is known -/
section
variable {P : Program} {w : World} {K : PySem.W.Frag} {mg : Str → Option Value} {base : Heap} {k : Nat} {x : Str} {N ps : List Str} {sp : Sp} {st : Stmt}
theorem ok_defC (X : Txt K mg) (i : Nat) (hi : fn[i]? = some (dOf (x, none) x x st)) (S : FnScope N ps (defScope st)) (hx : x ∈ gN ++ clN) (len : ∀ vs H Q E, sp vs H Q E → vs.length = ps.length)
    (hb : ∀ (kV doc pm : Value) (an : Option Addr) (cdv ct : Value) (us : List Value), us.length = ps.length → bindArgs (PySem.W.fnOf x x (defArgs st) (defBody st) (defScope st) .none kV doc pm an cdv ct) ⟨us, []⟩ = pure (ps.zip us))
    (hbody : ∀ (f : Addr) (A : Around) (outer : List Env) (s : Shared) (H : Hp) (vs : List V) (Q : VK) (E : XK), Room k (A.deeper (envOfC x (defScope st) s.heap.objs.size f (.ref (He.codeOf K (x, none))))) → sp vs H Q E →
      ∃ t, PSs (cxOf CX0 P w K mg base N x (defScope st) f (.ref (He.codeOf K (x, none))) A outer s H E).nox (defBody st) t ∧ t { nx := fun _ H' => Q .non H', rt := Q } (start N vs) H) : Ok P w K mg base CX0 (k + 1) x ps sp := by
  obtain ⟨fd, F⟩ := X.d i _ hi
  obtain ⟨oc, od, dV, kV, doc, pm, an, cdv, ct, osl, efd, lk, hcd, hD, hK⟩ := F.ex
  obtain ⟨c, rfl⟩ := He.codeIn_ref hcd
  have ec : He.codeOf K (x, none) = c := He.codeOf_eq lk (by rw [efd])
  refine ⟨⟨fd, ?_, FunD.bindsN F hb⟩, F.kp, X.g x hx⟩
  subst efd
  refine fn_of lk hcd S len fun A outer s H vs Q E hr hsp => ?_
  rw [← ec]
  rw [← ec] at hr
  obtain ⟨t, h1, h2⟩ := hbody _ A outer s H vs Q E hr hsp
  exact ⟨t, h1.nox, h2⟩
end
end K17
set_option linter.all false
/-! Rows' mathematics, B: the operations on triples. -/
namespace RW
theorem getD_map {φ : Int → Int} {l : List Int} {n : Nat} (h : n < l.length) : (l.map φ).getD n 0 = φ (l.getD n 0) := by
  rw [getD_lt (by simpa using h), getD_lt h, List.getElem_map]
theorem ev_map {φ : Int → Int} {t : Tri} {g' : Int} (hc : 0 < t.c.length) (hφ : ∀ (x : Int) (k : Nat), φ (x + t.g * k) = φ x + g' * k) (n : Nat) : ev ⟨t.h.map φ, t.c.map φ, g'⟩ n = φ (ev t n) := by
  by_cases hn : n < t.h.length
  · rw [ev_low hn, ev_low (by simpa using hn)]
    exact getD_map hn
  · rw [ev_high (t := t) (by omega), ev_high (by simp; omega)]
    unfold evc
    simp only [List.length_map]
    rw [getD_map (Nat.mod_lt _ hc), hφ]
theorem ev_rng {f : Nat → Int} {p N : Nat} {G : Int} (hp : 0 < p) (hf : Gains f p G N) (n : Nat) : ev ⟨(List.range N).map f, (List.range p).map fun i => f (N + i), G⟩ n = f n :=
  ev_of hp hf (by simp) (by simp) (fun n hn => by rw [getD_lt (by simpa using hn)]; simp) (fun n hn => by rw [getD_lt (by simpa using hn)]; simp) n
theorem ev_drop {t : Tri} {k : Nat} (hk : k ≤ t.h.length) (n : Nat) : ev ⟨t.h.drop k, t.c, t.g⟩ n = ev t (k + n) := by
  by_cases hn : k + n < t.h.length
  · rw [ev_low hn, ev_low (by simp; omega)]
    rw [getD_lt (by simp; omega), getD_lt hn]
    simp
  · rw [ev_high (t := t) (by omega), ev_high (by simp; omega)]
    simp only [List.length_drop]
    rw [show n - (t.h.length - k) = k + n - t.h.length by omega]
theorem ev_later {t : Tri} {k : Nat} {v : Int} (n : Nat) : ev ⟨List.replicate k v ++ t.h, t.c, t.g⟩ n = if n < k then v else ev t (n - k) := by
  by_cases hk : n < k
  · rw [if_pos hk, ev_low (by simp; omega), getD_lt (by simp; omega), List.getElem_append_left (by simpa using hk), List.getElem_replicate]
  · rw [if_neg hk]
    by_cases hn : n - k < t.h.length
    · rw [ev_low hn, ev_low (by simp; omega), getD_lt (by simp; omega), getD_lt hn, List.getElem_append_right (by simp; omega)]
      simp
    · rw [ev_high (t := t) (by omega), ev_high (by simp; omega)]
      simp only [List.length_append, List.length_replicate]
      rw [show n - (k + t.h.length) = n - k - t.h.length by omega]
theorem Gains.add {f : Nat → Int} {p N : Nat} {G : Int} (h : Gains f p G N) (c : Int) : Gains (fun n => f n + c) p G N := fun n hn => by
  have := h n hn
  show f (n + p) + c = f n + c + G
  omega
theorem Gains.neg {f : Nat → Int} {p N : Nat} {G : Int} (h : Gains f p G N) : Gains (fun n => - f n) p (-G) N := fun n hn => by
  have := h n hn
  show - f (n + p) = - f n + -G
  omega
theorem Gains.shift {f : Nat → Int} {p N : Nat} {G : Int} (h : Gains f p G N) (k : Nat) : Gains (fun n => f (k + n)) p G (N - k) := fun n hn => by
  have := h (k + n) (by omega)
  show f (k + (n + p)) = f (k + n) + G
  rw [← this, Nat.add_assoc]
/-! ### the lower of two -/
abbrev lo2 (f g : Nat → Int) : Nat → Int := fun n => if g n < f n then g n else f n
theorem lo2_le_l (f g : Nat → Int) (n : Nat) : lo2 f g n ≤ f n := by
  show (if g n < f n then g n else f n) ≤ _; split <;> omega
theorem lo2_le_r (f g : Nat → Int) (n : Nat) : lo2 f g n ≤ g n := by
  show (if g n < f n then g n else f n) ≤ _; split <;> omega
theorem lo2_or (f g : Nat → Int) (n : Nat) : lo2 f g n = f n ∨ lo2 f g n = g n := by
  show (if g n < f n then g n else f n) = _ ∨ (if g n < f n then g n else f n) = _; split <;> simp
theorem lo2_comm (f g : Nat → Int) (n : Nat) : lo2 f g n = lo2 g f n := by
  show (if g n < f n then g n else f n) = (if f n < g n then f n else g n); split <;> split <;> omega
theorem Gains.lo2 {f g : Nat → Int} {p N : Nat} {G : Int} (h1 : Gains f p G N) (h2 : Gains g p G N) : Gains (lo2 f g) p G N := fun n hn => by
  have a := h1 n hn
  have b := h2 n hn
  show (if g (n + p) < f (n + p) then g (n + p) else f (n + p)) = (if g n < f n then g n else f n) + G
  rw [a, b]
  split <;> split <;> omega
theorem Gains.many {f : Nat → Int} {p N : Nat} {G : Int} (h : Gains f p G N) (k : Nat) {n : Nat} (hn : N ≤ n) : f (n + k * p) = f n + k * G := h.mul k n hn
/-- beyond the last place of the faster one's being lower -/
theorem slow_wins {f g : Nat → Int} {M N last : Nat} {G1 G2 : Int} (hM : 0 < M) (hf : Gains f M G1 N) (hg : Gains g M G2 N) (hG : G1 < G2) (hl : N ≤ last)
    (hL : ∀ j, N ≤ j → j < N + M → 0 < f j - g j → (j : Int) + (f j - g j - 1) / (G2 - G1) * M + 1 ≤ last) {n : Nat} (hn : last ≤ n) : f n ≤ g n := by
  have hm := Nat.mod_lt (n - N) hM
  have hd := Nat.div_add_mod (n - N) M
  generalize hj : N + (n - N) % M = j at *
  generalize hk : (n - N) / M = k at *
  have en : n = j + k * M := by
    rw [Nat.mul_comm] at hd
    omega
  have a := hf.many k (n := j) (by omega)
  have b := hg.many k (n := j) (by omega)
  rw [← en] at a b
  by_cases hp : 0 < f j - g j
  · have z := hL j (by omega) (by omega) hp
    have more : 0 < G2 - G1 := by omega
    have key : (f j - g j - 1) / (G2 - G1) < k := by
      apply Classical.byContradiction
      intro hc
      have hc : (k : Int) ≤ (f j - g j - 1) / (G2 - G1) := by omega
      have : (k : Int) * M ≤ (f j - g j - 1) / (G2 - G1) * M := Int.mul_le_mul_of_nonneg_right hc (by omega)
      have e2 : (n : Int) = j + k * M := by rw [en]; simp
      omega
    have q : f j - g j - 1 < k * (G2 - G1) := by
      have := Int.ediv_lt_iff_lt_mul more |>.mp key
      exact this
    rw [Int.mul_sub] at q
    omega
  · have : (k : Int) * G1 ≤ k * G2 := Int.mul_le_mul_of_nonneg_left (by omega) (by omega)
    omega
end RW
set_option Elab.async false
set_option linter.all false
set_option maxRecDepth 100000
set_option maxHeartbeats 4000000
namespace K17
open PySem PySem.Spec PyProof.Rows L2 LamX
section
variable {K : PySem.W.Frag} {g : TG} {te : TE} {vs : List Nat} {σ : L2.St} {H1 : Hp} {D : Addr} {Qd : Hp → Prop}
theorem range_map_ints {ns : List Int} (φ : Int → Int) : (List.range (ns.map V.int).length).map (fun i => V.int (φ (ns.getD i 0))) = (ns.map φ).map V.int := by
  apply List.ext_getElem
  · simp
  · intro i h1 h2
    have hi : i < ns.length := by simpa using h2
    simp only [List.getElem_map, List.getElem_range]
    rw [RW.getD_lt hi]
/-- [φ(x) for x in a tuple of ints] -/
theorem lc_tpi {a : Addr} {ns : List Int} (φ : Int → Int) (hD : H1 D = none) (hl : H1 a = some (.tup (ns.map V.int))) (hn : ns.length ≤ 16777216)
    (hs : ∀ (x : Int) H (Q : VK), x ∈ ns → Gr K H1 H → (∀ H4, Gr K H H4 → Q (.int (φ x)) H4) → g (.int x) (wipe σ vs) H fun σ2 H2 => wipe σ2 vs = wipe σ vs ∧ te σ2 H2 Q)
    (hd : ∀ H, Gr K H1 H → H D = some (.lst ((ns.map φ).map V.int)) → Qd H) :
    ∃ W : Nat → Nat → Hp → Prop, (∃ m, W 0 m (upd H1 D (.lst []))) ∧ ∀ i m H, W i m H →
      ((Itt K a).stop i H ∧ Qd H) ∨ ((Itt K a).go i H ∧ ∃ Nx : Hp → Prop, (∀ H', Nx H' → ∃ m', m' < m ∧ W (i + 1) m' H') ∧ ∀ x H', (Itt K a).yld i H x H' → g x (wipe σ vs) H' fun σ2 H2 => wipe σ2 vs = wipe σ vs ∧ tYes σ2 H2 fun b H3 =>
        if b = true then te σ2 H3 fun y H4 => ∃ acc, H4 D = some (.lst acc) ∧ acc.length < sizeLine ∧ Nx (upd H4 D (.lst (acc ++ [y]))) else Nx H3) := by
  refine lc_tpl (fun i => V.int (φ (ns.getD i 0))) hD (.of hl) (by simpa using hn) (fun i x H Q hx g q => ?_) (fun H g h => hd H g (by rw [h, range_map_ints]))
  have hi : i < ns.length := by
    have := (List.getElem?_eq_some_iff.mp hx).1
    simpa using this
  rw [getID hi] at hx
  have := Option.some.inj hx
  subst this
  refine hs (ns.getD i 0) H Q ?_ g q
  rw [RW.getD_lt hi]
  exact List.getElem_mem hi
end
section
variable {P : Program} {w : World} {K : PySem.W.Frag} {mg : Str → Option Value} {base : Heap}
theorem tyRow (X : Txt K mg) {H : Hp} {p : Addr} {f : Nat → Int} (h : IsRow K H p f) : TyX K H (.ref p) (.ref (rowC K)) := by
  obtain ⟨t, dx, e, r, ct, et, z, hx, he, hr⟩ := h.fields
  exact .base (.ins hx X.cls X.c1 X.c2 X.c3 X.c4)
theorem sc_check_row : FnScope ["thing"] ["thing"] (defScope (topS 24)) := ⟨rfl, rfl, rfl, by decide +kernel, rfl, by decide +kernel, by decide +kernel⟩
def spCheckRow (K : PySem.W.Frag) : Sp := fun vs H Q _ => ∃ (p : Addr) (f : Nat → Int), vs = [.ref p] ∧ IsRow K H p f ∧ Q .non H
theorem ok_check_row (X : Txt K mg) : Ok P w K mg base CX0 1 "check_row" ["thing"] (spCheckRow K) := by
  refine ok_def0 X 10 rfl sc_check_row (by decide +kernel) (fun vs H Q E h => ?_) (fun _ _ _ _ _ _ us hl => match us, hl with | [_], _ => rfl) (fun f cdv A outer s H vs Q E hr h => ?_)
  · obtain ⟨p, f, rfl, _⟩ := h; rfl
  · obtain ⟨p, F, rfl, hR, q⟩ := h
    refine ⟨_, (pss_one (ps_if (pt_not (pt_val (pe_callB (isi_K (K := K)) (by rfl) X.b_isinstance (by decide +kernel) (pa_cons (pv 0) (pa_cons (pe_glob (v := .ref (rowC K)) (by rfl) (X.g "Row" (by decide +kernel)) rfl) pa_nil)))))
  (pss_one ps_never)
  pss_nil)), ?_⟩
    exact ⟨_, rfl, _, _, _, _, true, rfl, .own _, tyRow X hR, X.rr, true, rfl, q⟩
theorem sc_check_integer : FnScope ["thing"] ["thing"] (defScope (topS 26)) := ⟨rfl, rfl, rfl, by decide +kernel, rfl, by decide +kernel, by decide +kernel⟩
def spCheckInt : Sp := fun vs H Q _ => ∃ i : Int, vs = [.int i] ∧ Q .non H
theorem ok_check_integer (X : Txt K mg) : Ok P w K mg base CX0 2 "check_integer" ["thing"] spCheckInt := by
  refine ok_def0 X 12 rfl sc_check_integer (by decide +kernel) (fun vs H Q E h => ?_) (fun _ _ _ _ _ _ us hl => match us, hl with | [_], _ => rfl) (fun f cdv A outer s H vs Q E hr h => ?_)
  · obtain ⟨p, rfl, _⟩ := h; rfl
  · obtain ⟨i, rfl, q⟩ := h
    refine ⟨_, (pss_one (ps_if (pt_not (pt_val (pe_o (ok_is_whole X) hr pass0 (pa_cons (pv 0) pa_nil))))
  (pss_one ps_never)
  pss_nil)), ?_⟩
    exact ⟨_, rfl, i, rfl, true, rfl, q⟩
/-! ### one row -/
theorem sc_gain_of : FnScope ["row", "many"] ["row", "many"] (defScope (topS 28)) := ⟨rfl, rfl, rfl, by decide +kernel, rfl, by decide +kernel, by decide +kernel⟩
def spGainOf (K : PySem.W.Frag) : Sp := fun vs H Q _ => ∃ (p : Addr) (t : RW.Tri) (m : Nat), vs = [.ref p, .int m] ∧ RowO K H p t ∧ 0 < t.c.length ∧ t.c.length ≤ 8000000 ∧ m < 2 ^ 30 ∧ Q (.int (t.g * ((m / t.c.length : Nat) : Int))) H
theorem ok_gain_of (X : Txt K mg) : Ok P w K mg base CX0 1 "gain_of" ["row", "many"] (spGainOf K) := by
  refine ok_def0 X 14 rfl sc_gain_of (by decide +kernel) (fun vs H Q E h => ?_) (fun _ _ _ _ _ _ us hl => match us, hl with | [_, _], _ => rfl) (fun f cdv A outer s H vs Q E hr h => ?_)
  · obtain ⟨p, t, m, rfl, _⟩ := h; rfl
  · obtain ⟨x, t, m, rfl, ⟨dx, e, r, hx, he, hr'⟩, h0, hz, hm, q⟩ := h
    refine ⟨_, (pss_one (ps_ret (pe_op op_mul (fld_K (K := K) (pv 0)) (pe_op op_fdiv (pv 1) (pe_callB (len_K (K := K)) (by rfl) X.b_len (by decide +kernel) (pa_cons (fld_K (K := K) (pv 0)) pa_nil)))))), ?_⟩
    refine ⟨_, rfl, x, _, dx, _, _, rfl, hx, X.cls, X.at3, rfl, ?_⟩
    refine ⟨_, rfl, _, rfl, x, _, dx, _, _, rfl, hx, X.cls, X.at2, rfl, r, _, rfl, .inr (.of hr'), ?_⟩
    rw [List.length_map]
    have ed : (m : Int) / t.c.length = ((m / t.c.length : Nat) : Int) := by rw [Int.natCast_ediv]
    have l60 : m / t.c.length ≤ m := Nat.div_le_self _ _
    refine ⟨_, _, rfl, rfl, ⟨by omega, by omega⟩, _, _, rfl, rfl, .inr ⟨?_, ?_⟩, ?_⟩
    · rw [ed]; generalize m / t.c.length = z at l60 ⊢; omega
    · rw [ed]; generalize m / t.c.length = z at l60 ⊢; omega
    · rw [ed]; exact q
theorem sc_raised : FnScope ["row", "integer", "value"] ["row", "integer"] (defScope (topS 35)) := ⟨rfl, rfl, rfl, by decide +kernel, rfl, by decide +kernel, by decide +kernel⟩
def spRaised (K : PySem.W.Frag) : Sp := fun vs H Q _ => ∃ (p : Addr) (f : Nat → Int) (i : Int), vs = [.ref p, .int i] ∧ IsRow K H p f ∧ ∀ r H', Gr K H H' → IsRow K H' r (fun n => f n + i) → Q (.ref r) H'
theorem ok_raised (X : Txt K mg) : Ok P w K mg base CX0 6 "raised" ["row", "integer"] (spRaised K) := by
  refine ok_def0 X 21 rfl sc_raised (by decide +kernel) (fun vs H Q E h => ?_) (fun _ _ _ _ _ _ us hl => match us, hl with | [_, _], _ => rfl) (fun f cdv A outer s H vs Q E hr h => ?_)
  · obtain ⟨p, t, m, rfl, _⟩ := h; rfl
  · obtain ⟨x, F, i, rfl, hR, q⟩ := h
    obtain ⟨t, dx, e, r, ct, et, ⟨zh, zc⟩, hx, he, hr'⟩ := hR.fields
    refine ⟨_, (pss_one (ps_ret (row_K X (ok_init X) hr pass0 (pa_cons (pe_lc (own := [("value", 2)]) (g := (gName 2)) (tt := tYes) rfl sc_raised.nd (piT_K (K := K) (fld_K (K := K) (pv 0))) (blkOk_by (N := ["row", "integer", "value"]) (sc := defScope (topS 35)) (by decide +kernel)) (fun _ _ _ _ _ => (pg_name (i := 2) sc_raised.nd rfl (.inl rfl))) (fun _ _ _ _ _ => pts_nil) (fun _ _ _ _ _ => (pe_op op_add (pv 2) (pv 1)))) (pa_cons (pe_lc (own := [("value", 2)]) (g := (gName 2)) (tt := tYes) rfl sc_raised.nd (piT_K (K := K) (fld_K (K := K) (pv 0))) (blkOk_by (N := ["row", "integer", "value"]) (sc := defScope (topS 35)) (by decide +kernel)) (fun _ _ _ _ _ => (pg_name (i := 2) sc_raised.nd rfl (.inl rfl))) (fun _ _ _ _ _ => pts_nil) (fun _ _ _ _ _ => (pe_op op_add (pv 2) (pv 1)))) (pa_cons (fld_K (K := K) (pv 0)) pa_nil)))))), ?_⟩
    refine ⟨_, rfl, x, _, dx, _, _, rfl, hx, X.cls, X.at1, rfl, e, rfl, ⟨_, .of he⟩, fun D1 hD1 => ?_⟩
    refine lc_tpi (K := K) (fun v => v + i) hD1 he (by omega) (fun v H4 Q4 hv g4 q4 => ?_) (fun H4 g4 h4 => ?_)
    · exact ⟨rfl, _, rfl, _, rfl, _, _, rfl, rfl, q4 _ (Ge.refl _)⟩
    refine ⟨_, rfl, x, _, dx, _, _, rfl, g4.at hx, X.cls, X.at2, rfl, r, rfl, ⟨_, .of (g4.tup hr')⟩, fun D2 hD2 => ?_⟩
    refine lc_tpi (K := K) (fun v => v + i) hD2 (g4.tup hr') (by omega) (fun v H5 Q5 hv g5 q5 => ?_) (fun H5 g5 h5 => ?_)
    · exact ⟨rfl, _, rfl, _, rfl, _, _, rfl, rfl, q5 _ (Ge.refl _)⟩
    have gr := g4.trans g5
    refine ⟨_, rfl, x, _, dx, _, _, rfl, gr.at hx, X.cls, X.at3, rfl, fun y dy ny nd ne => ?_⟩
    refine mkRow (.inl (g5.lst h4)) (.inl h5) (by simpa using ct.ne) (by simpa using zc) (by simpa using zh) (fun p H' g7 r7 => q p H' (gr.trans g7) (r7.congr fun n => ?_)) y dy ny nd ne
    rw [RW.ev_map (φ := fun v => v + i) ct.ne (fun x k => by omega), et]
theorem sc_turned_about : FnScope ["row", "value"] ["row"] (defScope (topS 33)) := ⟨rfl, rfl, rfl, by decide +kernel, rfl, by decide +kernel, by decide +kernel⟩
def spTurned (K : PySem.W.Frag) : Sp := fun vs H Q _ => ∃ (p : Addr) (f : Nat → Int), vs = [.ref p] ∧ IsRow K H p f ∧ ∀ r H', Gr K H H' → IsRow K H' r (fun n => - f n) → Q (.ref r) H'
theorem ok_turned_about (X : Txt K mg) : Ok P w K mg base CX0 6 "turned_about" ["row"] (spTurned K) := by
  refine ok_def0 X 19 rfl sc_turned_about (by decide +kernel) (fun vs H Q E h => ?_) (fun _ _ _ _ _ _ us hl => match us, hl with | [_], _ => rfl) (fun f cdv A outer s H vs Q E hr h => ?_)
  · obtain ⟨p, t, rfl, _⟩ := h; rfl
  · obtain ⟨x, F, rfl, hR, q⟩ := h
    obtain ⟨t, dx, e, r, ct, et, ⟨zh, zc⟩, hx, he, hr'⟩ := hR.fields
    refine ⟨_, (pss_one (ps_ret (row_K X (ok_init X) hr pass0 (pa_cons (pe_lc (own := [("value", 1)]) (g := (gName 1)) (tt := tYes) rfl sc_turned_about.nd (piT_K (K := K) (fld_K (K := K) (pv 0))) (blkOk_by (N := ["row", "value"]) (sc := defScope (topS 33)) (by decide +kernel)) (fun _ _ _ _ _ => (pg_name (i := 1) sc_turned_about.nd rfl (.inl rfl))) (fun _ _ _ _ _ => pts_nil) (fun _ _ _ _ _ => (pe_un un_neg (pv 1)))) (pa_cons (pe_lc (own := [("value", 1)]) (g := (gName 1)) (tt := tYes) rfl sc_turned_about.nd (piT_K (K := K) (fld_K (K := K) (pv 0))) (blkOk_by (N := ["row", "value"]) (sc := defScope (topS 33)) (by decide +kernel)) (fun _ _ _ _ _ => (pg_name (i := 1) sc_turned_about.nd rfl (.inl rfl))) (fun _ _ _ _ _ => pts_nil) (fun _ _ _ _ _ => (pe_un un_neg (pv 1)))) (pa_cons (pe_un un_neg (fld_K (K := K) (pv 0))) pa_nil)))))), ?_⟩
    refine ⟨_, rfl, x, _, dx, _, _, rfl, hx, X.cls, X.at1, rfl, e, rfl, ⟨_, .of he⟩, fun D1 hD1 => ?_⟩
    refine lc_tpi (K := K) (fun v => -v) hD1 he (by omega) (fun v H4 Q4 hv g4 q4 => ?_) (fun H4 g4 h4 => ?_)
    · exact ⟨rfl, _, rfl, _, rfl, q4 _ (Ge.refl _)⟩
    refine ⟨_, rfl, x, _, dx, _, _, rfl, g4.at hx, X.cls, X.at2, rfl, r, rfl, ⟨_, .of (g4.tup hr')⟩, fun D2 hD2 => ?_⟩
    refine lc_tpi (K := K) (fun v => -v) hD2 (g4.tup hr') (by omega) (fun v H5 Q5 hv g5 q5 => ?_) (fun H5 g5 h5 => ?_)
    · exact ⟨rfl, _, rfl, _, rfl, q5 _ (Ge.refl _)⟩
    have gr := g4.trans g5
    refine ⟨_, rfl, x, _, dx, _, _, rfl, gr.at hx, X.cls, X.at3, rfl, _, rfl, fun y dy ny nd ne => ?_⟩
    refine mkRow (.inl (g5.lst h4)) (.inl h5) (by simpa using ct.ne) (by simpa using zc) (by simpa using zh) (fun p H' g7 r7 => q p H' (gr.trans g7) (r7.congr fun n => ?_)) y dy ny nd ne
    rw [RW.ev_map (φ := fun v => -v) ct.ne (fun x k => by rw [Int.neg_mul]; omega), et]
theorem sc_lifted : FnScope ["row", "integer"] ["row", "integer"] (defScope (topS 36)) := ⟨rfl, rfl, rfl, by decide +kernel, rfl, by decide +kernel, by decide +kernel⟩
theorem ok_lifted (X : Txt K mg) : Ok P w K mg base CX0 7 "lifted" ["row", "integer"] (spRaised K) := by
  refine ok_def0 X 22 rfl sc_lifted (by decide +kernel) (fun vs H Q E h => ?_) (fun _ _ _ _ _ _ us hl => match us, hl with | [_, _], _ => rfl) (fun f cdv A outer s H vs Q E hr h => ?_)
  · obtain ⟨p, t, m, rfl, _⟩ := h; rfl
  · obtain ⟨x, F, i, rfl, hR, q⟩ := h
    refine ⟨_, (pss_cons (ps_expr (pe_o (ok_check_row X) hr pass0 (pa_cons (pv 0) pa_nil)))
  (pss_cons (ps_expr (pe_o (ok_check_integer X) hr pass0 (pa_cons (pv 1) pa_nil)))
  (pss_one (ps_ret (pe_o (ok_raised X) hr pass0 (pa_cons (pv 0) (pa_cons (pv 1) pa_nil))))))), ?_⟩
    exact ⟨_, rfl, x, F, rfl, hR, _, rfl, i, rfl, _, rfl, _, rfl, x, F, i, rfl, hR, q⟩
theorem sc_sooner_by : FnScope ["row", "number", "place"] ["row", "number"] (defScope (topS 39)) := ⟨rfl, rfl, rfl, by decide +kernel, rfl, by decide +kernel, by decide +kernel⟩
def spSooner (K : PySem.W.Frag) : Sp := fun vs H Q _ => ∃ (p : Addr) (f : Nat → Int) (k : Nat), vs = [.ref p, .int k] ∧ IsRow K H p f ∧ k < 2 ^ 40 ∧ ∀ r H', Gr K H H' → IsRow K H' r (fun n => f (k + n)) → Q (.ref r) H'
theorem ok_sooner_by (X : Txt K mg) : Ok P w K mg base CX0 6 "sooner_by" ["row", "number"] (spSooner K) := by
  refine ok_def0 X 25 rfl sc_sooner_by (by decide +kernel) (fun vs H Q E h => ?_) (fun _ _ _ _ _ _ us hl => match us, hl with | [_, _], _ => rfl) (fun f cdv A outer s H vs Q E hr h => ?_)
  · obtain ⟨p, t, k, rfl, _⟩ := h; rfl
  · obtain ⟨x, F, k, rfl, hR, hk, q⟩ := h
    obtain ⟨t, dx, e, r, ct, et, ⟨zh, zc⟩, hx, he, hr'⟩ := hR.fields
    refine ⟨_, (pss_cons (ps_if (pt_cmpR op_le (pv 1) (pe_callB (len_K (K := K)) (by rfl) X.b_len (by decide +kernel) (pa_cons (fld_K (K := K) (pv 0)) pa_nil)) (nomark _))
  (pss_one (ps_ret (row_K X (ok_init X) hr pass0 (pa_cons (pe_slice (slT_K (K := K)) (fld_K (K := K) (pv 0)) (po_some (pv 1)) po_none) (pa_cons (fld_K (K := K) (pv 0)) (pa_cons (fld_K (K := K) (pv 0)) pa_nil))))))
  pss_nil)
  (pss_one (ps_ret (row_K X (ok_init X) hr pass0 (pa_cons (pe_lst pa_nil) (pa_cons (pe_lc (own := [("place", 2)]) (g := (gName 2)) (tt := tYes) rfl sc_sooner_by.nd (pi_range1 (by rfl) X.b_range (pa_cons (pe_callB (len_K (K := K)) (by rfl) X.b_len (by decide +kernel) (pa_cons (fld_K (K := K) (pv 0)) pa_nil)) pa_nil)) (blkOk_by (N := ["row", "number", "place"]) (sc := defScope (topS 39)) (by decide +kernel)) (fun _ _ _ _ _ => (pg_name (i := 2) sc_sooner_by.nd rfl (.inl rfl))) (fun _ _ _ _ _ => pts_nil) (fun _ _ _ _ _ => (m1_K X (by decide +kernel) (ok_value X) hr pass0 (pv 0) (pa_cons (pe_op op_add (pv 1) (pv 2)) pa_nil)))) (pa_cons (fld_K (K := K) (pv 0)) pa_nil))))))), ?_⟩
    refine ⟨_, rfl, _, rfl, x, _, dx, _, _, rfl, hx, X.cls, X.at1, rfl, e, _, rfl, .inr (.of he), ?_⟩
    rw [List.length_map]
    refine ⟨_, _, rfl, rfl, _, rfl, iteD (fun hle => ?_) (fun hgt => ?_)⟩
    · have hl : k ≤ t.h.length := by omega
      refine ⟨_, rfl, x, _, dx, _, _, rfl, hx, X.cls, X.at1, rfl, _, rfl, _, rfl, ?_⟩
      refine slA he fun p4 H4 g4 h4 => ?_
      rw [cut_drop (by simpa using hl), ← List.map_drop] at h4
      refine ⟨_, rfl, x, _, dx, _, _, rfl, g4.at hx, X.cls, X.at2, rfl, ?_⟩
      refine ⟨_, rfl, x, _, dx, _, _, rfl, g4.at hx, X.cls, X.at3, rfl, fun y dy ny nd ne => ?_⟩
      refine mkRow (.inr h4) (.inr (g4.tup hr')) ct.ne zc (by simp; omega) (fun p H' g7 r7 => q p H' (g4.trans g7) (r7.congr fun n => ?_)) y dy ny nd ne
      rw [RW.ev_drop hl, et]
    · refine ⟨by decide, fun D1 hD1 => ?_⟩
      refine ⟨_, rfl, x, _, dx, _, _, rfl, (Ge.new (T := tbs K) hD1).at hx, X.cls, X.at2, rfl, r, _, rfl, .inr (.of ((Ge.new (T := tbs K) hD1).tup hr')), ?_⟩
      rw [List.length_map]
      refine ⟨_, rfl, by omega, by omega, fun D2 hD2 => ?_⟩
      rw [Int.toNat_natCast]
      have g1 : Gr K H (upd H D1 (.lst [])) := Ge.new hD1
      refine lc_rng (K := K) (F := fun i => V.int (F (k + i))) hD2 (by omega) (fun i H4 Q4 hi g4 q4 => ?_) (fun H4 g4 h4 => ?_)
      · refine ⟨rfl, _, rfl, x, dx, _, rfl, (g1.trans g4).at hx, rfl, _, rfl, _, rfl, _, _, rfl, rfl, x, F, k + i, ?_, (g1.trans g4).row hR, by omega, q4 _ (Ge.refl _)⟩
        show [V.ref x, V.int ((k : Int) + (0 + (i : Int)))] = _
        rw [Int.zero_add]; rfl
      have gr := g1.trans g4
      refine ⟨_, rfl, x, _, dx, _, _, rfl, gr.at hx, X.cls, X.at3, rfl, fun y dy ny nd ne => ?_⟩
      refine mkRow (hs := []) (cs := (List.range t.c.length).map fun i => F (k + i)) (.inl (g4.lst upd_same)) (.inl ?_) (by simpa using ct.ne) (by simpa using zc) (by simp) (fun p H' g7 r7 => q p H' (gr.trans g7) (r7.congr fun n => ?_)) y dy ny nd ne
      · rw [h4, List.map_map]; rfl
      · have G1 : RW.Gains F t.c.length t.g t.h.length := (RW.ev_gains ct.ne).congr et
        have := RW.ev_rng (N := 0) ct.ne ((G1.shift k).mono (M := 0) (by omega)) n
        simpa using this
theorem sc_sooner : FnScope ["row", "number"] ["row", "number"] (defScope (topS 40)) := ⟨rfl, rfl, rfl, by decide +kernel, rfl, by decide +kernel, by decide +kernel⟩
theorem ok_sooner (X : Txt K mg) : Ok P w K mg base CX0 7 "sooner" ["row", "number"] (spSooner K) := by
  refine ok_def0 X 26 rfl sc_sooner (by decide +kernel) (fun vs H Q E h => ?_) (fun _ _ _ _ _ _ us hl => match us, hl with | [_, _], _ => rfl) (fun f cdv A outer s H vs Q E hr h => ?_)
  · obtain ⟨p, t, m, rfl, _⟩ := h; rfl
  · obtain ⟨x, F, i, rfl, hR, hk, q⟩ := h
    refine ⟨_, (pss_cons (ps_expr (pe_o (ok_check_row X) hr pass0 (pa_cons (pv 0) pa_nil)))
  (pss_cons (ps_expr (pe_o (ok_check_number X) hr pass0 (pa_cons (pv 1) pa_nil)))
  (pss_one (ps_ret (pe_o (ok_sooner_by X) hr pass0 (pa_cons (pv 0) (pa_cons (pv 1) pa_nil))))))), ?_⟩
    exact ⟨_, rfl, x, F, rfl, hR, _, rfl, i, rfl, by omega, _, rfl, _, rfl, x, F, i, rfl, hR, hk, q⟩
end
end K17
set_option Elab.async false
set_option linter.all false
set_option maxRecDepth 100000
set_option maxHeartbeats 4000000
namespace K17
open PySem PySem.Spec PyProof.Rows L2 LamX
section
variable {K : PySem.W.Frag} {g : TG} {tb : TS} {D : Ends} {σ : L2.St} {H : Hp} {a : Addr} {xs : List V}
/-- for x in a list that stays -/
theorem for_list (hl : H a = some (.lst xs)) (Pv : Nat → L2.St → Hp → Prop) (h0 : Pv 0 σ H) (hg : ∀ i σ H', Pv i σ H' → Gr K H H')
    (hs : ∀ i x σ H', xs[i]? = some x → Pv i σ H' → g x σ H' fun σ2 H2 => tb { D with nx := Pv (i + 1), ct := Pv (i + 1), bk := D.nx } σ2 H2) (hd : ∀ σ H', Pv xs.length σ H' → D.nx σ H') :
    ∃ W : Nat → Nat → L2.St → Hp → Prop, (∃ m, W 0 m σ H) ∧ ∀ i m σ H, W i m σ H →
      ((Itl K a).stop i H ∧ D.nx σ H) ∨ ((Itl K a).go i H ∧ ∃ N : L2.St → Hp → Prop, (∀ σ' H', N σ' H' → ∃ m', m' < m ∧ W (i + 1) m' σ' H') ∧ ∀ x H', (Itl K a).yld i H x H' → g x σ H' fun σ2 H2 => tb { D with nx := N, ct := N, bk := D.nx } σ2 H2) := by
  have at_ : ∀ i, i < xs.length → xs[i]? = some (xs.getD i .non) := fun i hi => by rw [List.getD, List.getElem?_eq_getElem hi]; rfl
  refine for_any (n := xs.length) Pv h0 (fun i σ H' hi p => ⟨xs, _, .of ((hg i σ H' p).lst hl), at_ i hi⟩) (fun σ H' p => ⟨xs, .of ((hg _ σ H' p).lst hl), Nat.le_refl _⟩) (fun i x σ H2 H' hi p h => ?_) hd
  obtain ⟨rfl, h⟩ := h
  exact hs i x σ H' (h xs (.of ((hg i σ H' p).lst hl))) p
/-- .. in a tuple -/
theorem for_tup (hl : H a = some (.tup xs)) (Pv : Nat → L2.St → Hp → Prop) (h0 : Pv 0 σ H) (hg : ∀ i σ H', Pv i σ H' → Gr K H H')
    (hs : ∀ i x σ H', xs[i]? = some x → Pv i σ H' → g x σ H' fun σ2 H2 => tb { D with nx := Pv (i + 1), ct := Pv (i + 1), bk := D.nx } σ2 H2) (hd : ∀ σ H', Pv xs.length σ H' → D.nx σ H') :
    ∃ W : Nat → Nat → L2.St → Hp → Prop, (∃ m, W 0 m σ H) ∧ ∀ i m σ H, W i m σ H →
      ((Itt K a).stop i H ∧ D.nx σ H) ∨ ((Itt K a).go i H ∧ ∃ N : L2.St → Hp → Prop, (∀ σ' H', N σ' H' → ∃ m', m' < m ∧ W (i + 1) m' σ' H') ∧ ∀ x H', (Itt K a).yld i H x H' → g x σ H' fun σ2 H2 => tb { D with nx := N, ct := N, bk := D.nx } σ2 H2) := by
  have at_ : ∀ i, i < xs.length → xs[i]? = some (xs.getD i .non) := fun i hi => by rw [List.getD, List.getElem?_eq_getElem hi]; rfl
  refine for_any (n := xs.length) Pv h0 (fun i σ H' hi p => ⟨xs, _, .of ((hg i σ H' p).tup hl), at_ i hi⟩) (fun σ H' p => ⟨xs, .of ((hg _ σ H' p).tup hl), Nat.le_refl _⟩) (fun i x σ H2 H' hi p h => ?_) hd
  obtain ⟨rfl, h⟩ := h
  exact hs i x σ H' (h xs (.of ((hg i σ H' p).tup hl))) p
end
section
variable {P : Program} {w : World} {K : PySem.W.Frag} {mg : Str → Option Value} {base : Heap}
theorem rep_flat {α : Type} (v : α) : ∀ k : Nat, (List.replicate k [v]).flatten = List.replicate k v
  | 0 => rfl
  | k + 1 => by rw [List.replicate_succ, List.flatten_cons, rep_flat v k, List.replicate_succ]; rfl
theorem sc_later : FnScope ["row", "number", "integer"] ["row", "number", "integer"] (defScope (topS 38)) := ⟨rfl, rfl, rfl, by decide +kernel, rfl, by decide +kernel, by decide +kernel⟩
def spLater (K : PySem.W.Frag) : Sp := fun vs H Q _ => ∃ (p : Addr) (f : Nat → Int) (k : Nat) (v : Int), vs = [.ref p, .int k, .int v] ∧ IsRow K H p f ∧ (∃ G P N, 0 < P ∧ RW.Gains f P G N ∧ k + N ≤ 8000000) ∧ ∀ r H', Gr K H H' → IsRow K H' r (fun n => if n < k then v else f (n - k)) → Q (.ref r) H'
theorem ok_later (X : Txt K mg) : Ok P w K mg base CX0 6 "later" ["row", "number", "integer"] (spLater K) := by
  refine ok_def0 X 24 rfl sc_later (by decide +kernel) (fun vs H Q E h => ?_) (fun _ _ _ _ _ _ us hl => match us, hl with | [_, _, _], _ => rfl) (fun f cdv A outer s H vs Q E hr h => ?_)
  · obtain ⟨p, t, k, v, rfl, _⟩ := h; rfl
  · obtain ⟨x, F, k, v, rfl, hR, ⟨G, Pp, N, hP, hG, hk⟩, q⟩ := h
    obtain ⟨t, dx, e, r, ct, et, ⟨zh, zc⟩, hx, he, hr'⟩ := hR.fields
    have hN := ct.head_le hP (hG.congr fun n => (et n).symm)
    refine ⟨_, (pss_cons (ps_expr (pe_o (ok_check_row X) hr pass0 (pa_cons (pv 0) pa_nil)))
  (pss_cons (ps_expr (pe_o (ok_check_number X) hr pass0 (pa_cons (pv 1) pa_nil)))
  (pss_cons (ps_expr (pe_o (ok_check_integer X) hr pass0 (pa_cons (pv 2) pa_nil)))
  (pss_one (ps_ret (row_K X (ok_init X) hr pass0 (pa_cons (pe_op op_cat (pe_op op_rep (pe_lst (pa_cons (pv 2) pa_nil)) (pv 1)) (pe_callTy (list_K (K := K)) (by rfl) X.b_list (by decide +kernel) (pa_cons (fld_K (K := K) (pv 0)) pa_nil))) (pa_cons (fld_K (K := K) (pv 0)) (pa_cons (fld_K (K := K) (pv 0)) pa_nil))))))))), ?_⟩
    refine ⟨_, rfl, x, F, rfl, hR, _, rfl, k, rfl, by omega, _, rfl, v, rfl, ?_⟩
    refine ⟨_, rfl, by show 1 ≤ sizeLine; decide, fun l1 n1 => ?_⟩
    refine ⟨_, rfl, l1, k, _, rfl, rfl, upd_same, by omega, by omega, ?_, fun l2 n2 => ?_⟩
    · rw [Int.toNat_natCast]; simp; exact sized (by omega)
    have g2 : Gr K H (upd (upd H l1 (.lst [.int v])) l2 (.lst (List.replicate (k : Int).toNat [V.int v]).flatten)) := (Ge.new n1).trans (Ge.new n2)
    refine ⟨_, rfl, x, _, dx, _, _, rfl, g2.at hx, X.cls, X.at1, rfl, e, _, rfl, .inr (.of (g2.tup he)), fun l3 n3 => ?_⟩
    refine ⟨l2, l3, _, _, rfl, rfl, by rw [upd_ne (ne_of_none upd_same n3)]; exact upd_same, upd_same, ?_, fun l4 n4 => ?_⟩
    · rw [Int.toNat_natCast]; simp; exact sized (by omega)
    have e4 : (List.replicate (k : Int).toNat [V.int v]).flatten ++ t.h.map V.int = (List.replicate k v ++ t.h).map V.int := by
      rw [Int.toNat_natCast, List.map_append, List.map_replicate]
      rw [rep_flat]
    rw [e4]
    have g4 : Gr K H (upd (upd (upd (upd H l1 (.lst [.int v])) l2 (.lst (List.replicate (k : Int).toNat [V.int v]).flatten)) l3 (.lst (t.h.map V.int))) l4 (.lst ((List.replicate k v ++ t.h).map V.int))) := (g2.trans (Ge.new n3)).trans (Ge.new n4)
    refine ⟨_, rfl, x, _, dx, _, _, rfl, g4.at hx, X.cls, X.at2, rfl, ?_⟩
    refine ⟨_, rfl, x, _, dx, _, _, rfl, g4.at hx, X.cls, X.at3, rfl, fun y dy ny nd ne => ?_⟩
    refine mkRow (.inl upd_same) (.inr (g4.tup hr')) ct.ne zc (by simp; omega) (fun p H' g7 r7 => q p H' (g4.trans g7) (r7.congr fun n => ?_)) y dy ny nd ne
    rw [RW.ev_later, et]
/-! ### two rows -/
/-- a list of two rows -/
def TwoRows (K : PySem.W.Frag) (H : Hp) (l : Addr) (t u : RW.Tri) : Prop := ∃ p q, H l = some (.lst [.ref p, .ref q]) ∧ RowO K H p t ∧ RowO K H q u ∧ (0 < t.c.length ∧ t.c.length ≤ 8000000) ∧ 0 < u.c.length ∧ u.c.length ≤ 8000000
theorem sc_round_of : FnScope ["rows", "found", "row"] ["rows"] (defScope (topS 27)) := ⟨rfl, rfl, rfl, by decide +kernel, rfl, by decide +kernel, by decide +kernel⟩
def spRound (K : PySem.W.Frag) : Sp := fun vs H Q _ => ∃ (l : Addr) (t u : RW.Tri), vs = [.ref l] ∧ TwoRows K H l t u ∧ Q (.int (Nat.lcm t.c.length u.c.length : Nat)) H
theorem ok_round_of (X : Txt K mg) : Ok P w K mg base CX0 2 "round_of" ["rows"] (spRound K) := by
  refine ok_def0 X 13 rfl sc_round_of (by decide +kernel) (fun vs H Q E h => ?_) (fun _ _ _ _ _ _ us hl => match us, hl with | [_], _ => rfl) (fun f cdv A outer s H vs Q E hr h => ?_)
  · obtain ⟨p, t, k, rfl, _⟩ := h; rfl
  · obtain ⟨l, t, u, rfl, ⟨p, q', hl, ⟨dx1, e1, r1, x1, y1, z1⟩, ⟨dx2, e2, r2, x2, y2, z2⟩, ⟨t0, tz⟩, u0, uz⟩, q⟩ := h
    refine ⟨_, (pss_cons (ps_set (i := 1) sc_round_of.nd rfl (.inl rfl) pe_int)
  (pss_cons (ps_for PassesOwn.never rfl (piL_K (K := K) (pv 0)) (pg_name (i := 2) sc_round_of.nd rfl (.inl rfl))
  (pss_one (ps_set (i := 1) sc_round_of.nd rfl (.inl rfl) (pe_o (ok_multiple_of X) hr pass0 (pa_cons (pv 1) (pa_cons (pe_callB (len_K (K := K)) (by rfl) X.b_len (by decide +kernel) (pa_cons (fld_K (K := K) (pv 2)) pa_nil)) pa_nil))))))
  (pss_one (ps_ret (pv 1))))), ?_⟩
    have go : ∀ i : Nat, ∃ c, (if i = 0 then (1 : Nat) else if i = 1 then t.c.length else Nat.lcm t.c.length u.c.length) = c := fun i => ⟨_, rfl⟩
    refine ⟨_, rfl, l, rfl, ⟨_, .of hl⟩, ?_⟩
    refine for_list (K := K) hl (fun i σ H' => H' = H ∧ ∃ j, σ = [some (.ref l), some (.int ((if i = 0 then (1 : Nat) else if i = 1 then t.c.length else Nat.lcm t.c.length u.c.length : Nat) : Int)), j]) ⟨rfl, none, rfl⟩ (fun i σ H' h => by rw [h.1]; exact Ge.refl H) (fun i x σ H' hx h => ?_) (fun σ H' h => ?_)
    · obtain ⟨rfl, j, rfl⟩ := h
      match i, hx with
      | 0, hx =>
        cases hx
        refine ⟨_, rfl, _, rfl, p, _, dx1, _, _, rfl, x1, X.cls, X.at2, rfl, r1, _, rfl, .inr (.of z1), ?_⟩
        rw [List.length_map]
        refine ⟨1, t.c.length, rfl, by decide, t0, by decide, by omega, ?_⟩
        rw [Nat.lcm_one_left]
        exact ⟨rfl, _, rfl⟩
      | 1, hx =>
        cases hx
        refine ⟨_, rfl, _, rfl, q', _, dx2, _, _, rfl, x2, X.cls, X.at2, rfl, r2, _, rfl, .inr (.of z2), ?_⟩
        rw [List.length_map]
        exact ⟨t.c.length, u.c.length, rfl, t0, u0, by omega, by omega, rfl, _, rfl⟩
      | i + 2, hx => simp at hx
    · obtain ⟨rfl, j, rfl⟩ := h
      exact ⟨_, rfl, q⟩
theorem sc_behind_heads : FnScope ["rows", "row"] ["rows"] (defScope (topS 29)) := ⟨rfl, rfl, rfl, by decide +kernel, rfl, by decide +kernel, by decide +kernel⟩
def spBehind (K : PySem.W.Frag) : Sp := fun vs H Q _ => ∃ (l : Addr) (t u : RW.Tri), vs = [.ref l] ∧ TwoRows K H l t u ∧ ∀ H', Gr K H H' → Q (.int (max t.h.length u.h.length : Nat)) H'
theorem ok_behind_heads (X : Txt K mg) : Ok P w K mg base CX0 1 "behind_heads" ["rows"] (spBehind K) := by
  refine ok_def0 X 15 rfl sc_behind_heads (by decide +kernel) (fun vs H Q E h => ?_) (fun _ _ _ _ _ _ us hl => match us, hl with | [_], _ => rfl) (fun f cdv A outer s H vs Q E hr h => ?_)
  · obtain ⟨p, t, k, rfl, _⟩ := h; rfl
  · obtain ⟨l, t, u, rfl, ⟨p, q', hl, ⟨dx1, e1, r1, x1, y1, z1⟩, ⟨dx2, e2, r2, x2, y2, z2⟩, ⟨t0, tz⟩, u0, uz⟩, q⟩ := h
    refine ⟨_, (pss_one (ps_ret (pe_callB (max_K (K := K)) (by rfl) X.b_max (by decide +kernel) (pa_cons (pe_lc (own := [("row", 1)]) (g := (gName 1)) (tt := tYes) rfl sc_behind_heads.nd (piL_K (K := K) (pv 0)) (blkOk_by (N := ["rows", "row"]) (sc := defScope (topS 29)) (by decide +kernel)) (fun _ _ _ _ _ => (pg_name (i := 1) sc_behind_heads.nd rfl (.inl rfl))) (fun _ _ _ _ _ => pts_nil) (fun _ _ _ _ _ => (pe_callB (len_K (K := K)) (by rfl) X.b_len (by decide +kernel) (pa_cons (fld_K (K := K) (pv 1)) pa_nil)))) pa_nil)))), ?_⟩
    refine ⟨_, rfl, l, rfl, ⟨_, .of hl⟩, fun D hD => ?_⟩
    refine lc_lst (K := K) (fun i => V.int (if i = 0 then t.h.length else u.h.length)) hD (.of hl) (by simp) (fun i x H4 Q4 hx g4 q4 => ?_) (fun H4 g4 h4 => ?_)
    · match i, hx with
      | 0, hx =>
        cases hx
        refine ⟨rfl, _, rfl, p, _, dx1, _, _, rfl, g4.at x1, X.cls, X.at1, rfl, e1, _, rfl, .inr (.of (g4.tup y1)), ?_⟩
        rw [List.length_map]
        exact q4 _ (Ge.refl _)
      | 1, hx =>
        cases hx
        refine ⟨rfl, _, rfl, q', _, dx2, _, _, rfl, g4.at x2, X.cls, X.at1, rfl, e2, _, rfl, .inr (.of (g4.tup y2)), ?_⟩
        rw [List.length_map]
        exact q4 _ (Ge.refl _)
      | i + 2, hx => simp at hx
    · refine ⟨D, [(t.h.length : Int), u.h.length], rfl, .of h4, by simp, fun m hm hle => ?_⟩
      have h1 := hle _ (List.mem_cons_self)
      have h2 := hle _ (List.mem_cons_of_mem _ (List.mem_cons_self))
      have e : m = ((max t.h.length u.h.length : Nat) : Int) := by
        rcases List.mem_cons.mp hm with rfl | hm
        · omega
        · rcases List.mem_cons.mp hm with rfl | hm
          · omega
          · cases hm
      rw [e]
      exact q _ g4
end
end K17
set_option Elab.async false
set_option linter.all false
set_option maxRecDepth 100000
set_option maxHeartbeats 4000000
namespace K17
open PySem PySem.Spec PyProof.Rows L2 LamX NdefX
section
variable {P : Program} {w : World} {K : PySem.W.Frag} {mg : Str → Option Value} {base : Heap}
/-- the bounds under which two rows may be led together -/
def LotOk (f g : Nat → Int) : Prop := ∃ (M N : Nat) (G1 G2 : Int) (L : Nat), 0 < M ∧ RW.Gains f M G1 N ∧ RW.Gains g M G2 N ∧ (G1 = G2 ∨ ∀ n, n < N + M + M → f n - g n ≤ L ∧ g n - f n ≤ L) ∧ N + M + L * M + M ≤ 8000000
theorem LotOk.symm {f g : Nat → Int} (h : LotOk f g) : LotOk g f := by
  obtain ⟨M, N, G1, G2, L, a, b, c, d, e⟩ := h
  exact ⟨M, N, G2, G1, L, a, c, b, d.imp Eq.symm fun z n hn => (z n hn).symm, e⟩
theorem sc_least_of_two : FnScope ["one", "other", "many", "place", "gain", "more", "last", "number", "lack", "size"] ["one", "other"] (defScope (topS 30)) := ⟨rfl, rfl, rfl, by decide +kernel, rfl, by decide +kernel, by decide +kernel⟩
def spLot (K : PySem.W.Frag) : Sp := fun vs H Q _ => ∃ (p q : Addr) (f g : Nat → Int), vs = [.ref p, .ref q] ∧ Tabs (tbs K) H ∧ IsRow K H p f ∧ IsRow K H q g ∧ LotOk f g ∧ ∀ r H', Gr K H H' → IsRow K H' r (RW.lo2 f g) → Q (.ref r) H'
theorem ok_least_of_two (X : Txt K mg) (TB : TabB base mg (He.cT K ("least_of_two", none)).1 (He.cT K ("least_of_two", none)).2) : Ok P w K mg base CX0 7 "least_of_two" ["one", "other"] (spLot K) := by
  have hu : ∀ p ∈ tbs K, p.1 = (He.cT K ("least_of_two", none)).2 → p.2 = "least_of_two.<locals>.<lambda>" := fun p hp e => by
    rcases List.mem_cons.mp hp with rfl | hp
    · rfl
    · rcases List.mem_cons.mp hp with rfl | hp
      · exact absurd e.symm X.tb12
      · rcases List.mem_cons.mp hp with rfl | hp
        · exact absurd e.symm X.tb13
        · cases hp
  refine ok_defC X 16 rfl sc_least_of_two (by decide +kernel) (fun vs H Q E h => ?_) (fun _ _ _ _ _ _ us hl => match us, hl with | [_, _], _ => rfl) (fun f A outer s H vs Q E hr h => ?_)
  · obtain ⟨p, q, f, g, rfl, _⟩ := h; rfl
  · obtain ⟨p, q, F, G, rfl, hT, r1, r2, lot, fin⟩ := h
    -- from the second assignment on: the first row is the slower one
    have rest : ∃ t, PSs (cxOf CX0 P w K mg base ["one", "other", "many", "place", "gain", "more", "last", "number", "lack", "size"] "least_of_two" (defScope (topS 30)) f (.ref (He.codeOf K ("least_of_two", none))) A outer s H E).nox ((defBody (topS 30)).drop 2) t ∧
        ∀ (p' q' : Addr) (F' G' : Nat → Int) (t1 u : RW.Tri) (many place : Nat) (H' : Hp), Gr K H H' → IsRow K H p' F' → IsRow K H q' G' → RowO K H p' t1 → RowO K H q' u → RW.Canon t1 → RW.Canon u → (∀ n, RW.ev t1 n = F' n) → (∀ n, RW.ev u n = G' n) → (t1.h.length ≤ 8000000 ∧ t1.c.length ≤ 8000000) → (u.h.length ≤ 8000000 ∧ u.c.length ≤ 8000000) →
          LotOk F' G' → (∀ n, RW.lo2 F' G' n = RW.lo2 F G n) → many = Nat.lcm t1.c.length u.c.length → place = max t1.h.length u.h.length → t1.g * ((many / t1.c.length : Nat) : Int) ≤ u.g * ((many / u.c.length : Nat) : Int) →
          t { nx := fun _ H' => Q .non H', rt := Q } [some (.ref p'), some (.ref q'), some (.int many), some (.int place), none, none, none, none, none, none] H' := by
      refine ⟨_, (pss_cons (ps_par (i := 4) (j := 5) (by rfl) sc_least_of_two.nd rfl rfl (by decide) rfl rfl (pa_cons (pe_o (ok_gain_of X) hr pass0 (pa_cons (pv 0) (pa_cons (pv 2) pa_nil))) (pa_cons (pe_op op_sub (pe_o (ok_gain_of X) hr pass0 (pa_cons (pv 1) (pa_cons (pv 2) pa_nil))) (pe_o (ok_gain_of X) hr pass0 (pa_cons (pv 0) (pa_cons (pv 2) pa_nil)))) pa_nil)) (by rfl))
  (pss_cons (ps_if (pt_cmpR op_eq (pv 5) pe_int (nomark _))
  (pss_one (ps_ret (pe_rowbyK (j1 := 0) (j2 := 1) X hr (by decide) TB rfl rfl (List.mem_cons_self) hu (nscope_by (by decide +kernel)) (fun _ _ _ _ _ => rfl) (fun _ _ _ _ _ _ _ _ hr => (pe_callB (call_min2 rfl) (by rfl) X.b_min (by decide +kernel) (pa_cons (m1_K (K := K) X (by decide +kernel) (ok_value X) hr pass0 (pv 1) (pa_cons (pv 0) pa_nil)) (pa_cons (m1_K (K := K) X (by decide +kernel) (ok_value X) hr pass0 (pv 2) (pa_cons (pv 0) pa_nil)) pa_nil)))) rfl (fun _ => rfl) rfl rfl rfl rfl (pa_cons (pv 3) (pa_cons (pv 2) (pa_cons (pv 4) pa_nil))))))
  pss_nil)
  (pss_cons (ps_set (i := 6) sc_least_of_two.nd rfl (.inl rfl) (pv 3))
  (pss_cons (ps_for PassesOwn.never rfl (pi_range2 (by rfl) X.b_range (pa_cons (pv 3) (pa_cons (pe_op op_add (pv 3) (pv 2)) pa_nil))) (pg_name (i := 7) sc_least_of_two.nd rfl (.inl rfl))
  (pss_cons (ps_set (i := 8) sc_least_of_two.nd rfl (.inl rfl) (pe_op op_sub (m1_K X (by decide +kernel) (ok_value X) hr pass0 (pv 0) (pa_cons (pv 7) pa_nil)) (m1_K X (by decide +kernel) (ok_value X) hr pass0 (pv 1) (pa_cons (pv 7) pa_nil))))
  (pss_one (ps_if (pt_cmpR op_gt (pv 8) pe_int (nomark _))
  (pss_one (ps_set (i := 6) sc_least_of_two.nd rfl (.inl rfl) (pe_callB (call_max2 rfl) (by rfl) X.b_max (by decide +kernel) (pa_cons (pv 6) (pa_cons (pe_op op_add (pe_op op_add (pv 7) (pe_op op_mul (pe_op op_fdiv (pe_op op_sub (pv 8) pe_int) (pv 5)) (pv 2))) pe_int) pa_nil)))))
  pss_nil))))
  (pss_cons (ps_set (i := 9) sc_least_of_two.nd rfl (.inl rfl) (pe_callB (len_K (K := K)) (by rfl) X.b_len (by decide +kernel) (pa_cons (fld_K (K := K) (pv 0)) pa_nil)))
  (pss_one (ps_ret (pe_rowbyK (j1 := 0) (j2 := 1) X hr (by decide) TB rfl rfl (List.mem_cons_self) hu (nscope_by (by decide +kernel)) (fun _ _ _ _ _ => rfl) (fun _ _ _ _ _ _ _ _ hr => (pe_callB (call_min2 rfl) (by rfl) X.b_min (by decide +kernel) (pa_cons (m1_K (K := K) X (by decide +kernel) (ok_value X) hr pass0 (pv 1) (pa_cons (pv 0) pa_nil)) (pa_cons (m1_K (K := K) X (by decide +kernel) (ok_value X) hr pass0 (pv 2) (pa_cons (pv 0) pa_nil)) pa_nil)))) rfl (fun _ => rfl) rfl rfl rfl rfl (pa_cons (pv 6) (pa_cons (pv 9) (pa_cons (fld_K (K := K) (pv 0)) pa_nil))))))))))), ?_⟩
      intro p' q' F' G' t u many place H' gr R1 R2 O1 O2 ct cu et eu ⟨zth, ztc⟩ ⟨zuh, zuc⟩ lot' elo em ep hle
      obtain ⟨M, N, G1, G2, L, hM, hG1, hG2, hL, hB⟩ := lot'
      have kt := hG1.congr fun n => (et n).symm
      have ku := hG2.congr fun n => (eu n).symm
      have ht := ct.head_le hM kt
      have hu' := cu.head_le hM ku
      have dt : t.c.length ∣ M := Nat.dvd_of_mod_eq_zero (ct.dvd ⟨hM, _, _, kt⟩)
      have du : u.c.length ∣ M := Nat.dvd_of_mod_eq_zero (cu.dvd ⟨hM, _, _, ku⟩)
      have dm : many ∣ M := by rw [em]; exact Nat.lcm_dvd dt du
      have lm : many ≤ M := Nat.le_of_dvd hM dm
      have m0 : 0 < many := by rw [em]; exact Nat.lcm_pos ct.ne cu.ne
      have e1 : many / t.c.length * t.c.length = many := Nat.div_mul_cancel (by rw [em]; exact Nat.dvd_lcm_left _ _)
      have e2 : many / u.c.length * u.c.length = many := Nat.div_mul_cancel (by rw [em]; exact Nat.dvd_lcm_right _ _)
      have g1 : RW.Gains F' many (t.g * ((many / t.c.length : Nat) : Int)) place := by
        have := ((RW.ev_gains ct.ne).congr et).mul (many / t.c.length)
        rw [e1, Int.mul_comm] at this
        exact this.mono (by omega)
      have g2 : RW.Gains G' many (u.g * ((many / u.c.length : Nat) : Int)) place := by
        have := ((RW.ev_gains cu.ne).congr eu).mul (many / u.c.length)
        rw [e2, Int.mul_comm] at this
        exact this.mono (by omega)
      refine ⟨_, rfl, _, rfl, p', t, many, rfl, gr.rowO O1, ct.ne, ztc, by omega, ?_⟩
      refine ⟨_, rfl, _, rfl, q', u, many, rfl, gr.rowO O2, cu.ne, zuc, by omega, ?_⟩
      refine ⟨_, rfl, _, rfl, p', t, many, rfl, gr.rowO O1, ct.ne, ztc, by omega, ?_⟩
      generalize t.g * ((many / t.c.length : Nat) : Int) = gn at g1 hle ⊢
      generalize u.g * ((many / u.c.length : Nat) : Int) = gu at g2 hle ⊢
      have row1 := gr.row R1
      have row2 := gr.row R2
      have tabH := gr.tab hT
      refine ⟨_, _, rfl, rfl, _, _, rfl, ?_⟩
      refine ⟨_, rfl, rfl, _, rfl, iteD (fun e0 => ?_) (fun ne0 => ?_)⟩
      · have eg : gu = gn := by have := V.int.inj e0; omega
        subst eg
        refine ⟨tabH, p', q', F', G', rfl, rfl, row1, row2, fun H5 g5 => ?_⟩
        refine ⟨_, rfl, _, rfl, _, rfl, Ge.refl _, place, many, gu, rfl, m0, by omega, fun r H6 g6 r6 => ?_⟩
        exact fin r H6 ((gr.trans g5).trans g6) (r6.congr fun n => (RW.ev_rng m0 (g1.lo2 g2) n).trans (elo n))
      · have hlt : gn < gu := by
          have : ¬ gu - gn = 0 := fun z => ne0 (congrArg V.int z)
          omega
        have hL' : ∀ n, n < N + M + M → F' n - G' n ≤ L ∧ G' n - F' n ≤ L := by
          rcases hL with z | z
          · exfalso
            have c1 := hG1.cross g1
            have c2 := hG2.cross g2
            rw [z] at c1
            rw [c1] at c2
            have : (M : Int) * gn < M * gu := Int.mul_lt_mul_of_pos_left hlt (by omega)
            omega
          · exact z
        have hpN : place ≤ N := by omega
        have hmore : gu - gn ≤ 2 * L := by
          have x1 := hL' place (by omega)
          have x2 := hL' (place + many) (by omega)
          have y1 := g1 place (Nat.le_refl _)
          have y2 := g2 place (Nat.le_refl _)
          omega
        have hLM : L ≤ L * M := Nat.le_mul_of_pos_right L hM
        have hLm : L * many ≤ L * M := Nat.mul_le_mul_left L lm
        have more0 : 0 < gu - gn := by omega
        refine ⟨_, rfl, _, rfl, _, rfl, _, rfl, _, _, rfl, rfl, (place : Int), (place : Int) + many, rfl, ⟨by omega, by omega, by omega, by omega⟩, ?_⟩
        rw [show ((place : Int) + many - place).toNat = many by omega]
        refine for_any (n := many) (fun i σ H2 => H2 = H' ∧ ∃ (last : Nat) (j7 j8 : Option V), σ = [some (.ref p'), some (.ref q'), some (.int many), some (.int place), some (.int gn), some (.int (gu - gn)), some (.int last), j7, j8, none] ∧ place ≤ last ∧ last ≤ N + M + L * M ∧
          ∀ j, place ≤ j → j < place + i → 0 < F' j - G' j → (j : Int) + (F' j - G' j - 1) / (gu - gn) * many + 1 ≤ last) ⟨rfl, place, none, none, rfl, Nat.le_refl _, by omega, fun j h1 h2 => by omega⟩ (fun i σ H2 hi h => hi) (fun σ H2 h => Nat.le_refl _) (fun i x σ H2 H3 hi h hy => ?_) (fun σ H2 h => ?_)
        · obtain ⟨rfl, last, j7, j8, rfl, b1, b2, b3⟩ := h
          obtain ⟨rfl, rfl⟩ := hy
          rw [show (place : Int) + (i : Int) = ((place + i : Nat) : Int) by omega]
          obtain ⟨t1, dx1, x1, y1, _, _, _, z1, _, _⟩ := row1.fields
          obtain ⟨t2, dx2, x2, y2, _, _, _, z2, _, _⟩ := row2.fields
          have hj := hL' (place + i) (by omega)
          refine ⟨_, rfl, p', dx1, _, rfl, z1, rfl, _, rfl, p', F', place + i, rfl, row1, by omega, ?_⟩
          refine ⟨_, rfl, q', dx2, _, rfl, z2, rfl, _, rfl, q', G', place + i, rfl, row2, by omega, ?_⟩
          refine ⟨_, _, rfl, rfl, _, rfl, _, _, rfl, rfl, _, rfl, iteD (fun e1 => ?_) (fun e1 => ?_)⟩
          · have hd0 : 0 ≤ (F' (place + i) - G' (place + i) - 1) / (gu - gn) := Int.ediv_nonneg (by omega) (by omega)
            have hd1 : (F' (place + i) - G' (place + i) - 1) / (gu - gn) ≤ F' (place + i) - G' (place + i) - 1 := Int.ediv_le_self _ (by omega)
            have hd2 : (F' (place + i) - G' (place + i) - 1) / (gu - gn) * many ≤ ((L * M : Nat) : Int) := by
              have : (F' (place + i) - G' (place + i) - 1) / (gu - gn) * many ≤ (L : Int) * many := Int.mul_le_mul_of_nonneg_right (by omega) (by omega)
              have e : ((L * many : Nat) : Int) = (L : Int) * many := by simp
              omega
            have hd3 : 0 ≤ (F' (place + i) - G' (place + i) - 1) / (gu - gn) * many := Int.mul_nonneg hd0 (by omega)
            refine ⟨_, rfl, _, rfl, _, rfl, _, _, rfl, rfl, _, rfl, _, _, rfl, rfl, ⟨more0, by omega⟩, _, rfl, _, _, rfl, rfl, .inr ⟨by omega, by omega⟩, _, _, rfl, rfl, _, _, rfl, rfl, _, _, rfl, ?_⟩
            show _ ∧ _
            refine ⟨rfl, ?_⟩
            generalize hw : (F' (place + i) - G' (place + i) - 1) / (gu - gn) * (many : Int) = wv at hd2 hd3
            refine ⟨max last (place + i + wv.toNat + 1), some (.int (place + i : Nat)), some (.int (F' (place + i) - G' (place + i))), ?_, by omega, by omega, fun j h1 h2 h3 => ?_⟩
            · rw [show (if ((place + i : Nat) : Int) + wv + 1 > (last : Int) then ((place + i : Nat) : Int) + wv + 1 else (last : Int)) = ((max last (place + i + wv.toNat + 1) : Nat) : Int) by split <;> omega]
              rfl
            · by_cases e : j = place + i
              · subst e
                rw [hw]; omega
              · have := b3 j h1 (by omega) h3
                omega
          · exact ⟨rfl, last, _, _, rfl, b1, b2, fun j h1 h2 h3 => by
              by_cases e : j = place + i
              · subst e; omega
              · exact b3 j h1 (by omega) h3⟩
        · obtain ⟨rfl, last, j7, j8, rfl, b1, b2, b3⟩ := h
          have O1' := gr.rowO O1
          obtain ⟨dx, e, r, hx, he, hr'⟩ := O1'
          refine ⟨_, rfl, p', _, dx, _, _, rfl, hx, X.cls, X.at2, rfl, r, _, rfl, .inr (.of hr'), ?_⟩
          rw [List.length_map]
          refine ⟨tabH, p', q', F', G', rfl, rfl, row1, row2, fun H5 g5 => ?_⟩
          refine ⟨_, rfl, _, rfl, _, rfl, p', _, dx, _, _, rfl, g5.at hx, X.cls, X.at3, rfl, Ge.refl _, last, t.c.length, t.g, rfl, ct.ne, ?_, fun r H6 g6 r6 => ?_⟩
          · have := Nat.le_of_dvd hM dt
            omega
          · refine fin r H6 ((gr.trans g5).trans g6) (r6.congr fun n => (RW.ev_rng ct.ne ?_ n).trans (elo n))
            have wins := fun n (hn : last ≤ n) => RW.slow_wins m0 g1 g2 hlt b1 (fun j h1 h2 h3 => b3 j h1 h2 h3) hn
            have lo : ∀ n, last ≤ n → RW.lo2 F' G' n = F' n := fun n hn => by
              have := wins n hn
              show (if G' n < F' n then G' n else F' n) = F' n
              rw [if_neg (by omega)]
            have gt := ((RW.ev_gains ct.ne).congr et).mono (M := last) (by omega)
            intro n hn
            show RW.lo2 F' G' _ = RW.lo2 F' G' n + t.g
            rw [lo n hn, lo _ (by omega)]
            exact gt n hn
    obtain ⟨tr, htr, hrest⟩ := rest
    obtain ⟨t, dx1, x1, y1, ct, et, zt, z1, he1, hr1⟩ := r1.fields
    obtain ⟨u, dx2, x2, y2, cu, eu, zu, z2, he2, hr2⟩ := r2.fields
    have O1 : RowO K H p t := ⟨dx1, x1, y1, z1, he1, hr1⟩
    have O2 : RowO K H q u := ⟨dx2, x2, y2, z2, he2, hr2⟩
    refine ⟨_, (pss_cons (ps_par (i := 2) (j := 3) (by rfl) sc_least_of_two.nd rfl rfl (by decide) rfl rfl (pa_cons (pe_o (ok_round_of X) hr pass0 (pa_cons (pe_lst (pa_cons (pv 0) (pa_cons (pv 1) pa_nil))) pa_nil)) (pa_cons (pe_o (ok_behind_heads X) hr pass0 (pa_cons (pe_lst (pa_cons (pv 0) (pa_cons (pv 1) pa_nil))) pa_nil)) pa_nil)) (by rfl))
  (pss_cons (ps_if (pt_cmpR op_gt (pe_o (ok_gain_of X) hr pass0 (pa_cons (pv 0) (pa_cons (pv 2) pa_nil))) (pe_o (ok_gain_of X) hr pass0 (pa_cons (pv 1) (pa_cons (pv 2) pa_nil))) (nomark _))
  (pss_one (ps_asg (pe_tup (pa_cons (pv 1) (pa_cons (pv 0) pa_nil))) (tup_K (K := K) (pgs_cons (pg_name (i := 0) sc_least_of_two.nd rfl (.inr rfl)) (pgs_cons (pg_name (i := 1) sc_least_of_two.nd rfl (.inr rfl)) pgs_nil)))))
  pss_nil)
  htr)), ?_⟩
    refine ⟨_, rfl, _, rfl, by show 2 ≤ sizeLine; decide, fun l1 n1 => ?_⟩
    have g1 : Gr K H (upd H l1 (.lst [.ref p, .ref q])) := Ge.new n1
    refine ⟨l1, t, u, rfl, ⟨p, q, upd_same, g1.rowO O1, g1.rowO O2, ⟨ct.ne, zt.2⟩, cu.ne, zu.2⟩, ?_⟩
    refine ⟨_, rfl, _, rfl, by show 2 ≤ sizeLine; decide, fun l2 n2 => ?_⟩
    have g2 : Gr K H (upd (upd H l1 (.lst [.ref p, .ref q])) l2 (.lst [.ref p, .ref q])) := g1.trans (Ge.new n2)
    refine ⟨l2, t, u, rfl, ⟨p, q, upd_same, g2.rowO O1, g2.rowO O2, ⟨ct.ne, zt.2⟩, cu.ne, zu.2⟩, fun H3 g3 => ?_⟩
    have gr := g2.trans g3
    have lotc := lot
    obtain ⟨M, N, G1, G2, L, hM, hG1, hG2, hL, hB⟩ := lot
    have dt : t.c.length ∣ M := Nat.dvd_of_mod_eq_zero (ct.dvd ⟨hM, _, _, hG1.congr fun n => (et n).symm⟩)
    have du : u.c.length ∣ M := Nat.dvd_of_mod_eq_zero (cu.dvd ⟨hM, _, _, hG2.congr fun n => (eu n).symm⟩)
    have lm : Nat.lcm t.c.length u.c.length ≤ M := Nat.le_of_dvd hM (Nat.lcm_dvd dt du)
    refine ⟨_, _, rfl, ?_⟩
    refine ⟨_, rfl, _, rfl, p, t, Nat.lcm t.c.length u.c.length, rfl, gr.rowO O1, ct.ne, zt.2, by omega, ?_⟩
    refine ⟨_, rfl, _, rfl, q, u, Nat.lcm t.c.length u.c.length, rfl, gr.rowO O2, cu.ne, zu.2, by omega, ?_⟩
    refine ⟨_, _, rfl, rfl, _, rfl, iteD (fun e => ?_) (fun e => ?_)⟩
    · refine ⟨_, rfl, _, rfl, by show 2 ≤ sizeLine; decide, fun tp ntp => ?_⟩
      refine ⟨tp, _, rfl, .of upd_same, rfl, _, _, rfl, _, _, rfl, rfl, ?_⟩
      exact hrest q p G F u t (Nat.lcm t.c.length u.c.length) (max t.h.length u.h.length) _ (gr.trans (Ge.new ntp)) r2 r1 O2 O1 cu ct eu et zu zt lotc.symm (fun n => RW.lo2_comm G F n) (Nat.lcm_comm _ _) (Nat.max_comm _ _) (by omega)
    · exact hrest p q F G t u (Nat.lcm t.c.length u.c.length) (max t.h.length u.h.length) _ gr r1 r2 O1 O2 ct cu et eu zt zu lotc (fun n => rfl) rfl rfl (by omega)
end
end K17
set_option Elab.async false
set_option linter.all false
set_option maxRecDepth 100000
set_option maxHeartbeats 4000000
/-! d.values() of a dict with tuple keys, and its list. -/
namespace K17
open PySem PySem.Spec PyProof.Rows L2 LamX
/-- the view d.values() at p -/
def valsO (p d : Addr) : HO := .ext fun h => h.IsValuesView p d
theorem valsO_ok {P : Program} {w : World} {H : Hp} {h : Heap} {p d : Addr} (e : h.get? p = some { cls := .type "dict_values", data := .fields #[.ref d] }) : ObjOk P w H h p (valsO p d) :=
  ⟨⟨_, e, rfl, rfl⟩, ⟨_, e⟩, fun h1 h2 x k => let ⟨o, ho, r⟩ := x; ⟨o, k o ho, r⟩⟩
def rValsT : V → List V → Hp → VK → Prop := fun x xs H Q => ∃ (a : Addr) (kvs : List (List L2.Key × V)), x = .ref a ∧ xs = [] ∧ H a = some (.dT kvs) ∧ ∀ p, H p = none → Q (.ref p) (upd H p (valsO p a))
def rListV : List V → Hp → VK → Prop := fun xs H Q => ∃ (p a : Addr) (kvs : List (List L2.Key × V)), xs = [.ref p] ∧ H p = some (valsO p a) ∧ H a = some (.dT kvs) ∧ ∀ l, H l = none → Q (.ref l) (upd H l (.lst (kvs.map (·.2))))
section
variable {X : Cx}
theorem mt_valsT : MtR X "dict.values" rValsT := by
  intro pins s σ H x xs v us Q I rx rxs h
  obtain ⟨a, kvs, rfl, rfl, ha, q⟩ := h
  cases rx
  cases rxs
  obtain ⟨z, hd, xs', rel, o, es, ep, ho, hx, hdat, _⟩ := dt_of I.hok ha
  have raw : s.heap.DictRaw a es ep := ⟨o, ho, hx, hdat⟩
  refine call_meetsIn PySem.F.slot_dict_values raw.typeIs PySem.F.entry_dict_values (PySem.F.args_dict_values_1 _) (meets_dict_values_raw a hd) ⟨⟨es, ep, raw⟩, ?_⟩
  have hf : H s.heap.objs.size = none := I.hok.fresh (Nat.le_refl _)
  exact ⟨.ref s.heap.objs.size, upd H s.heap.objs.size (valsO s.heap.objs.size a), I.laid (t' := s.toks) (fun b u e => Heap.get?_push_of_some _ e) (Nat.le_refl _) (valsO_ok (Heap.get?_push_size _ rfl)), rfl, q _ hf⟩
theorem kt_get {H : Hp} : ∀ {kvs : List (List L2.Key × V)} {xs : List (List L2.Key × Addr × Value)}, KT H kvs xs → ∀ {i : Nat} {p : List L2.Key × V} {y : List L2.Key × Addr × Value}, kvs[i]? = some p → xs[i]? = some y → RelV p.2 y.2.2
  | _, _, .nil, _, _, _, e, _ => by simp at e
  | _, _, .cons h t, 0, _, _, e1, e2 => by simp at e1 e2; subst e1; subst e2; exact h.2.2
  | _, _, .cons h t, i + 1, _, _, e1, e2 => kt_get t (i := i) (by simpa using e1) (by simpa using e2)
theorem call_listV (hc : X.calm = true) : CallR X (.type "list") rListV := by
  intro pins s σ H xs us Q I rx h
  obtain ⟨p, a, kvs, rfl, hp, ha, q⟩ := h
  cases rx with
  | cons r1 rt =>
    cases rt
    obtain rfl : _ = Value.ref p := r1
    obtain ⟨z, hd, xs', rel, o, es, ep, ho, hx, hdat, hes, _⟩ := dt_of I.hok ha
    have hv : s.heap.IsValuesView p a := (I.hok p _ hp).1
    have raw : s.heap.DictRaw a es ep := ⟨o, ho, hx, hdat⟩
    have hl : kvs.length = xs'.length := Paired.length rel
    have hsz : es.size = xs'.length := by rw [← Array.length_toList, hes, List.length_map]
    refine PySem.W.kdl_call (PySem.KdlSrc.rawValues (es := es) (ep := ep)) (I.ok.hd hc) ⟨hv, raw⟩ (by omega) fun h' tk acc' c' hkeep hS hacc => ?_
    refine ⟨.ref s.heap.objs.size, upd H s.heap.objs.size (.lst (kvs.map (·.2))), I.laid hkeep (Nat.le_refl _) (show ObjOk X.prog X.w _ _ _ (.lst (kvs.map (·.2))) from ⟨?_, acc'.toList, c', ?_, ?_⟩), rfl, q _ (I.hok.fresh (Nat.le_refl _))⟩
    · rw [List.length_map]; exact z
    · have el : acc'.toList.length = acc'.size := by simp
      refine vals_of_at (by rw [List.length_map, el, hacc.1, hsz, hl]) fun j x w h1 h2 => ?_
      obtain ⟨hj, e⟩ := hacc.2 j w (by rw [← Array.getElem?_toList]; exact h2)
      rw [List.getElem?_map] at h1
      cases e1 : kvs[j]? with
      | none => rw [e1] at h1; cases h1
      | some kv =>
        rw [e1] at h1
        cases h1
        have hj2 : j < xs'.length := by omega
        have e2 : xs'[j]? = some xs'[j] := List.getElem?_eq_getElem hj2
        have e3 := kt_get rel e1 e2
        have e4 : es[j] = entryOfKey (tupleKind (mixKind X.prog X.w)) xs'[j] := by
          have : es.toList[j]? = some (entryOfKey (tupleKind (mixKind X.prog X.w)) xs'[j]) := by rw [hes, List.getElem?_map, e2]; rfl
          rw [Array.getElem?_toList, Array.getElem?_eq_getElem hj] at this
          exact Option.some.inj this
        rw [e, e4]
        exact e3
    · rw [Array.toArray_toList]; exact hS
end
end K17
set_option Elab.async false
set_option linter.all false
set_option maxRecDepth 100000
set_option maxHeartbeats 4000000
namespace K17
open PySem PySem.Spec PyProof.Rows L2 LamX
/-! ### rates as keys -/
theorem low_scale {a : Int} {c k : Nat} (hc : 0 < c) (hk : 0 < k) : low (a * k) (c * k) = low a c := by
  unfold low
  have e : Nat.gcd (a * (k : Int)).natAbs (c * k) = Nat.gcd a.natAbs c * k := by
    rw [Int.natAbs_mul, Int.natAbs_natCast, Nat.gcd_mul_right]
  have hg : 0 < Nat.gcd a.natAbs c := Nat.gcd_pos_of_pos_right _ hc
  rw [e]
  refine Prod.ext ?_ ?_
  · show a * (k : Int) / ((Nat.gcd a.natAbs c * k : Nat) : Int) = a / (Nat.gcd a.natAbs c : Int)
    rw [Int.natCast_mul, Int.mul_ediv_mul_of_pos_left _ _ (by omega)]
  · show ((c * k : Nat) : Int) / ((Nat.gcd a.natAbs c * k : Nat) : Int) = (c : Int) / (Nat.gcd a.natAbs c : Int)
    rw [Int.natCast_mul, Int.natCast_mul, Int.mul_ediv_mul_of_pos_left _ _ (by omega)]
theorem low_inj {a b : Int} {M : Nat} (hM : 0 < M) (e : low a M = low b M) : a = b := by
  unfold low at e
  have e1 := congrArg Prod.fst e
  have e2 := congrArg Prod.snd e
  simp only at e1 e2
  have ga : 0 < Nat.gcd a.natAbs M := Nat.gcd_pos_of_pos_right _ hM
  have gb : 0 < Nat.gcd b.natAbs M := Nat.gcd_pos_of_pos_right _ hM
  have da : (Nat.gcd a.natAbs M : Int) ∣ (M : Int) := Int.natCast_dvd_natCast.mpr (Nat.gcd_dvd_right _ _)
  have db : (Nat.gcd b.natAbs M : Int) ∣ (M : Int) := Int.natCast_dvd_natCast.mpr (Nat.gcd_dvd_right _ _)
  have da' : (Nat.gcd a.natAbs M : Int) ∣ a := Int.dvd_natAbs.mp (Int.natCast_dvd_natCast.mpr (Nat.gcd_dvd_left _ _))
  have db' : (Nat.gcd b.natAbs M : Int) ∣ b := Int.dvd_natAbs.mp (Int.natCast_dvd_natCast.mpr (Nat.gcd_dvd_left _ _))
  have x1 := Int.ediv_mul_cancel da
  have x2 := Int.ediv_mul_cancel db
  have y1 := Int.ediv_mul_cancel da'
  have y2 := Int.ediv_mul_cancel db'
  have hq : 0 < (M : Int) / (Nat.gcd b.natAbs M : Int) := by
    apply Int.ediv_pos_of_pos_of_dvd (by omega) (by omega) db
  have eg : (Nat.gcd a.natAbs M : Int) = (Nat.gcd b.natAbs M : Int) := by
    rw [e2] at x1
    have : (M : Int) / (Nat.gcd b.natAbs M : Int) * (Nat.gcd a.natAbs M : Int) = (M : Int) / (Nat.gcd b.natAbs M : Int) * (Nat.gcd b.natAbs M : Int) := by omega
    exact Int.eq_of_mul_eq_mul_left (by omega) this
  rw [e1, eg] at y1
  omega
def keyOf (G : Int) (M : Nat) : List Key := [.inl (low G M).1, .inl (low G M).2]
theorem keyOf_inj {a b : Int} {M : Nat} (hM : 0 < M) (e : keyOf a M = keyOf b M) : a = b := by
  unfold keyOf at e
  injection e with e1 e2
  injection e2 with e2 _
  injection e1 with e1
  injection e2 with e2
  exact low_inj hM (Prod.ext e1 e2)
/-- a row's own rate is the rate at any length that it gains at -/
theorem rate_key {t : RW.Tri} {f : Nat → Int} {M N : Nat} {G : Int} (ct : RW.Canon t) (et : ∀ n, RW.ev t n = f n) (hM : 0 < M) (h : RW.Gains f M G N) : low t.g t.c.length = low G M := by
  have k := h.congr fun n => (et n).symm
  have hd : t.c.length ∣ M := Nat.dvd_of_mod_eq_zero (ct.dvd ⟨hM, _, _, k⟩)
  obtain ⟨j, hj⟩ := hd
  have j0 : 0 < j := by
    rcases Nat.eq_zero_or_pos j with z | z
    · rw [z] at hj; omega
    · exact z
  have k2 := (RW.ev_gains ct.ne).mul' j
  rw [← hj] at k2
  have e := k2.uniq k
  rw [← e, hj, Int.mul_comm (j : Int), low_scale ct.ne j0]
/-! ### a dict that is written, seen from a heap in which it does not stand -/
theorem Ge.put {T : List (Addr × Str)} {H0 H' : Hp} {D : Addr} {o o' : HO} (g : Ge T H0 H') (h0 : H0 D = none) (h : H' D = some o) (h1 : ∀ ps, o ≠ .tbl ps) (h2 : ∀ φ, o ≠ .ext φ) : Ge T H0 (upd H' D o') :=
  ⟨fun b u e n => by rw [upd_ne (ne_of_none e h0)]; exact g.ext b u e n, fun t => tabs_upd (g.tab t) h h1 h2⟩
theorem row_upd {K : PySem.W.Frag} {H : Hp} {D p : Addr} {f : Nat → Int} {o o' : HO} (r : IsRow K H p f) (h : H D = some o) (h1 : ∀ C d fs, o ≠ .ins C d fs) (h2 : ∀ xs, o ≠ .tup xs) : IsRow K (upd H D o') p f := by
  obtain ⟨t, ct, et, z, dx, e, rr, x1, x2, x3⟩ := r
  refine ⟨t, ct, et, z, dx, e, rr, ?_, ?_, ?_⟩
  · rw [upd_ne fun z => h1 _ _ _ (Option.some.inj (h.symm.trans (z ▸ x1)))]; exact x1
  · rw [upd_ne fun z => h2 _ (Option.some.inj (h.symm.trans (z ▸ x2)))]; exact x2
  · rw [upd_ne fun z => h2 _ (Option.some.inj (h.symm.trans (z ▸ x3)))]; exact x3
theorem huR {k : Nat} {A : Around} (r : Room k A) : A.units + 1 < cLine := by have := r.units; omega
/-! ### the lowest of many -/
def Lowest (fs : List (Nat → Int)) (g : Nat → Int) : Prop := ∀ n, (∃ f ∈ fs, g n = f n) ∧ ∀ f ∈ fs, g n ≤ f n
/-- rows that may be led together: at most two rates -/
structure Fam (fs : List (Nat → Int)) (M N L : Nat) (G1 G2 : Int) : Prop where
  m0 : 0 < M
  bd : N + M + L * M + M ≤ 8000000
  gn : ∀ f ∈ fs, RW.Gains f M G1 N ∨ RW.Gains f M G2 N
  lk : G1 = G2 ∨ ∀ f ∈ fs, ∀ g ∈ fs, ∀ n, n < N + M + M → f n - g n ≤ L
/-- one rate's lowest so far -/
structure Ent where
  r : Addr
  d : Nat → Int
  G : Int
def Ent.kv (M : Nat) (e : Ent) : List Key × V := (keyOf e.G M, .ref e.r)
theorem valV_ents {M : Nat} (hM : 0 < M) (G : Int) : ∀ (ds : List Ent), (∀ e ∈ ds, e.G = G → False) → valV (ds.map (Ent.kv M)) (keyOf G M) = none
  | [], _ => rfl
  | e :: ds, h => by
    rw [List.map_cons, valV_neg (fun z => h e (List.mem_cons_self) (keyOf_inj hM z))]
    exact valV_ents hM G ds fun x hx => h x (List.mem_cons_of_mem _ hx)
theorem valV_ent {M : Nat} (hM : 0 < M) : ∀ (ds : List Ent) (e : Ent), e ∈ ds → (ds.map Ent.G).Nodup → valV (ds.map (Ent.kv M)) (keyOf e.G M) = some (.ref e.r)
  | [], _, h, _ => by cases h
  | x :: ds, e, h, nd => by
    rw [List.map_cons] at nd ⊢
    obtain ⟨n1, n2⟩ := List.nodup_cons.mp nd
    rcases List.mem_cons.mp h with rfl | h
    · rw [valV_pos (p := e.kv M) (by rfl)]; rfl
    · rw [valV_neg (fun z => n1 (by rw [keyOf_inj hM z]; exact List.mem_map_of_mem h))]
      exact valV_ent hM ds e h n2
theorem putK_ent {M : Nat} (hM : 0 < M) {ds : List Ent} {e : Ent} (h : e ∈ ds) (e' : Ent) (hG : e'.G = e.G) : putK (ds.map (Ent.kv M)) (keyOf e.G M) (.ref e'.r) = (ds.map fun x => if x.G = e.G then e' else x).map (Ent.kv M) := by
  unfold putK
  rw [if_pos, List.map_map, List.map_map]
  · refine List.map_congr_left fun x hx => ?_
    show (if (x.kv M).1 = keyOf e.G M then ((x.kv M).1, V.ref e'.r) else x.kv M) = (if x.G = e.G then e' else x).kv M
    by_cases z : x.G = e.G
    · rw [if_pos z, if_pos (by unfold Ent.kv; rw [z])]
      unfold Ent.kv
      rw [z, hG]
    · rw [if_neg z, if_neg (show ¬ (x.kv M).1 = keyOf e.G M from fun q => z (keyOf_inj hM q))]
  · rw [List.any_eq_true]
    exact ⟨e.kv M, List.mem_map_of_mem h, by simp [Ent.kv]⟩
theorem putK_new' {M : Nat} (hM : 0 < M) {ds : List Ent} (e' : Ent) (h : ∀ e ∈ ds, e.G = e'.G → False) : putK (ds.map (Ent.kv M)) (keyOf e'.G M) (.ref e'.r) = (ds ++ [e']).map (Ent.kv M) := by
  rw [putK_new _ (valV_ents hM _ ds h), List.map_append]
  rfl
section
variable {X : Cx} {K : PySem.W.Frag} {o : Expr} {to : TE} {name : Str} {T id : String} {r : V → List V → Hp → VK → Prop} {apos cpos : Pos}
theorem bm0_K (pa : PlainAttrs T) (slot : Slot T name id) (hty : typeOf (.builtin id) = pure (.type "method_descriptor")) (hm : MtR X id r) (ho : PE X o to) (hK : X.K = K := by rfl)
    (hbase : attributeBase o name X.env (eval o X.env) = eval o X.env := by rfl) (hline : (apos.endLine == cpos.line) = true := by rfl) : PE X (.Call (.Attribute o name apos) [] [] cpos) (tBM0 K T r to) := by
  subst hK
  exact pe_bm0 pa slot hty hm ho hbase hline
end
section
variable {K : PySem.W.Frag} {g : TG} {tb : TS} {D : Ends} {σ : L2.St} {H : Hp} {a : Addr} {xs : List V}
/-- for x in a list that stays while the turns run -/
theorem for_listP (Pv : Nat → L2.St → Hp → Prop) (h0 : Pv 0 σ H) (hg : ∀ i σ H', Pv i σ H' → H' a = some (.lst xs))
    (hs : ∀ i x σ H', xs[i]? = some x → Pv i σ H' → g x σ H' fun σ2 H2 => tb { D with nx := Pv (i + 1), ct := Pv (i + 1), bk := D.nx } σ2 H2) (hd : ∀ σ H', Pv xs.length σ H' → D.nx σ H') :
    ∃ W : Nat → Nat → L2.St → Hp → Prop, (∃ m, W 0 m σ H) ∧ ∀ i m σ H, W i m σ H →
      ((Itl K a).stop i H ∧ D.nx σ H) ∨ ((Itl K a).go i H ∧ ∃ N : L2.St → Hp → Prop, (∀ σ' H', N σ' H' → ∃ m', m' < m ∧ W (i + 1) m' σ' H') ∧ ∀ x H', (Itl K a).yld i H x H' → g x σ H' fun σ2 H2 => tb { D with nx := N, ct := N, bk := D.nx } σ2 H2) := by
  have at_ : ∀ i, i < xs.length → xs[i]? = some (xs.getD i .non) := fun i hi => by rw [List.getD, List.getElem?_eq_getElem hi]; rfl
  refine for_any (n := xs.length) Pv h0 (fun i σ H' hi p => ⟨xs, _, .of (hg i σ H' p), at_ i hi⟩) (fun σ H' p => ⟨xs, .of (hg _ σ H' p), Nat.le_refl _⟩) (fun i x σ H2 H' hi p h => ?_) hd
  obtain ⟨rfl, h⟩ := h
  exact hs i x σ H' (h xs (.of (hg i σ H' p))) p
end
theorem nodup_two {α : Type} {l : List α} {a b : α} (nd : l.Nodup) (h : ∀ x ∈ l, x = a ∨ x = b) : l.length ≤ 2 := by
  match l, nd, h with
  | [], _, _ => simp
  | [_], _, _ => simp
  | [_, _], _, _ => simp
  | x :: y :: z :: r, nd, h =>
    exfalso
    obtain ⟨n1, nd⟩ := List.nodup_cons.mp nd
    obtain ⟨n2, nd⟩ := List.nodup_cons.mp nd
    have h1 := h x (by simp)
    have h2 := h y (by simp)
    have h3 := h z (by simp)
    have xy : x ≠ y := fun e => n1 (by simp [e])
    have xz : x ≠ z := fun e => n1 (by simp [e])
    have yz : y ≠ z := fun e => n2 (by simp [e])
    rcases h1 with rfl | rfl <;> rcases h2 with rfl | rfl <;> rcases h3 with rfl | rfl <;> simp_all
theorem nodup_inj {α β : Type} {f : α → β} : ∀ {l : List α}, (l.map f).Nodup → ∀ {x y : α}, x ∈ l → y ∈ l → f x = f y → x = y
  | [], _, _, _, h, _, _ => by cases h
  | a :: l, nd, x, y, hx, hy, e => by
    rw [List.map_cons] at nd
    obtain ⟨n1, n2⟩ := List.nodup_cons.mp nd
    rcases List.mem_cons.mp hx with ex | hx'
    · rcases List.mem_cons.mp hy with ey | hy'
      · exact ex.trans ey.symm
      · exact absurd (by rw [← ex, e]; exact List.mem_map_of_mem hy') n1
    · rcases List.mem_cons.mp hy with ey | hy'
      · exact absurd (by rw [← ey, ← e]; exact List.mem_map_of_mem hx') n1
      · exact nodup_inj n2 hx' hy' e
end K17
set_option Elab.async false
set_option linter.all false
set_option maxRecDepth 100000
set_option maxHeartbeats 4000000
namespace K17
open PySem PySem.Spec PyProof.Rows L2 LamX NdefX
section
variable {P : Program} {w : World} {K : PySem.W.Frag} {mg : Str → Option Value} {base : Heap}
/-- a list of rows -/
def Rows (K : PySem.W.Frag) (H : Hp) (l : Addr) (rs : List (Addr × (Nat → Int))) : Prop := H l = some (.lst (rs.map fun x => V.ref x.1)) ∧ ∀ x ∈ rs, IsRow K H x.1 x.2
theorem sc_least_among : FnScope ["rows", "found", "row", "rate", "some", "least"] ["rows"] (defScope (topS 31)) := ⟨rfl, rfl, rfl, by decide +kernel, rfl, by decide +kernel, by decide +kernel⟩
def spAmong (K : PySem.W.Frag) : Sp := fun vs H Q _ => ∃ (l : Addr) (rs : List (Addr × (Nat → Int))) (M N L : Nat) (G1 G2 : Int), vs = [.ref l] ∧ Tabs (tbs K) H ∧ Rows K H l rs ∧ rs ≠ [] ∧ Fam (rs.map (·.2)) M N L G1 G2 ∧
  ∀ r H' g, Gr K H H' → IsRow K H' r g → Lowest (rs.map (·.2)) g → Q (.ref r) H'
theorem ok_least_among (X : Txt K mg) (TB : TabB base mg (He.cT K ("least_of_two", none)).1 (He.cT K ("least_of_two", none)).2) : Ok P w K mg base CX0 8 "least_among" ["rows"] (spAmong K) := by
  refine ok_def0 X 17 rfl sc_least_among (by decide +kernel) (fun vs H Q E h => ?_) (fun _ _ _ _ _ _ us hl => match us, hl with | [_], _ => rfl) (fun f cdv A outer s H vs Q E hr h => ?_)
  · obtain ⟨l, rs, _, _, _, _, _, rfl, _⟩ := h; rfl
  · obtain ⟨l, rs, M, N, L, G1, G2, rfl, hT, ⟨hl, hrs⟩, hne, fam, fin⟩ := h
    refine ⟨_, (pss_cons (ps_set (i := 1) sc_least_among.nd rfl (.inl rfl) (pe_dnewT))
  (pss_cons (ps_for PassesOwn.never rfl (piL_K (K := K) (pv 0)) (pg_name (i := 2) sc_least_among.nd rfl (.inl rfl))
  (pss_cons (ps_set (i := 3) sc_least_among.nd rfl (.inl rfl) (m0_K X (by decide +kernel) (ok_rate X) hr pass0 (pv 2)))
  (pss_one (ps_dput (huR hr) (pv 1) (pv 3) (pe_ifExp (pt_cmp (pc_din (huR hr) (pv 3) (pv 1))) (pe_o (ok_least_of_two X TB) hr pass0 (pa_cons (pe_dget (huR hr) (pv 1) (pv 3) (fun _ _ => rfl)) (pa_cons (pv 2) pa_nil))) (pv 2)) rfl))))
  (pss_cons (ps_set (i := 4) sc_least_among.nd rfl (.inl rfl) (pe_callTy (call_listV rfl) (by rfl) X.b_list (by decide +kernel) (pa_cons (bm0_K (K := K) PySem.F.plainAttrs_dict PySem.F.slot_dict_values PySem.F.type_dict_values mt_valsT (pv 1)) pa_nil)))
  (pss_cons (ps_set (i := 5) sc_least_among.nd rfl (.inl rfl) (pe_ix (ixL_K (K := K)) (pv 4) pe_int (fun _ _ => rfl)))
  (pss_cons (ps_for PassesOwn.never rfl (piL_K (K := K) (pe_slice (slL_K (K := K)) (pv 4) (po_some pe_int) po_none)) (pg_name (i := 2) sc_least_among.nd rfl (.inl rfl))
  (pss_one (ps_set (i := 5) sc_least_among.nd rfl (.inl rfl) (pe_o (ok_least_of_two X TB) hr pass0 (pa_cons (pv 5) (pa_cons (pv 2) pa_nil))))))
  (pss_one (ps_ret (pv 5)))))))), ?_⟩
    intro D hD
    have mh : 0 < M := fam.m0
    have bd := fam.bd
    refine ⟨_, rfl, l, rfl, ⟨_, .of (Ge.lst (T := tbs K) (Ge.new hD) hl)⟩, ?_⟩
    refine for_listP (K := K) (xs := rs.map fun x => V.ref x.1) (fun i σ H' => Gr K H H' ∧ ∃ (j2 j3 : Option V) (ds : List Ent), σ = [some (.ref l), some (.ref D), j2, j3, none, none] ∧ H' D = some (.dT (ds.map (Ent.kv M))) ∧ (ds.map Ent.G).Nodup ∧
      (∀ e ∈ ds, IsRow K H' e.r e.d ∧ RW.Gains e.d M e.G N ∧ (e.G = G1 ∨ e.G = G2) ∧ ∀ n, ∃ x ∈ rs.take i, e.d n = x.2 n) ∧ ∀ x ∈ rs.take i, ∃ e ∈ ds, ∀ n, e.d n ≤ x.2 n) ⟨Ge.new hD, none, none, [], rfl, upd_same, by simp, by simp, by simp⟩ (fun i σ H' h => h.1.lst hl) (fun i x σ H' hx h => ?_) (fun σ H' h => ?_)
    · obtain ⟨gr, j2, j3, ds, rfl, hd, nd, hds, hall⟩ := h
      obtain ⟨pf, hpf, rfl⟩ : ∃ pf, rs[i]? = some pf ∧ x = V.ref pf.1 := by
        rw [List.getElem?_map] at hx
        cases e : rs[i]? with
        | none => rw [e] at hx; cases hx
        | some pf => rw [e] at hx; cases hx; exact ⟨pf, rfl, rfl⟩
      obtain ⟨p, f⟩ := pf
      have hi : i < rs.length := (List.getElem?_eq_some_iff.mp hpf).1
      have mem : (p, f) ∈ rs := List.mem_of_getElem? hpf
      have tk : rs.take (i + 1) = rs.take i ++ [(p, f)] := by rw [List.take_add_one, hpf]; rfl
      have row := gr.row (hrs _ mem)
      obtain ⟨t, dx, e, r, ct, et, zt, z1, he, hr'⟩ := row.fields
      obtain ⟨Gf, hGf, hG12⟩ : ∃ Gf, RW.Gains f M Gf N ∧ (Gf = G1 ∨ Gf = G2) := (fam.gn f (List.mem_map_of_mem mem)).elim (fun z => ⟨G1, z, .inl rfl⟩) fun z => ⟨G2, z, .inr rfl⟩
      have rk := rate_key ct et mh hGf
      have dl : ds.length ≤ 2 := by
        have := nodup_two (a := G1) (b := G2) nd fun y hy => by
          obtain ⟨e, he, rfl⟩ := List.mem_map.mp hy
          exact (hds e he).2.2.1
        simpa using this
      refine ⟨_, rfl, p, dx, _, rfl, z1, rfl, p, t, rfl, ⟨dx, e, r, z1, he, hr'⟩, ct.ne, zt.2, fun u nu => ?_⟩
      rw [rk]
      have g1 : Gr K H' (upd H' u (.tup ((keyOf Gf M).map kV))) := Ge.new nu
      have gru := gr.trans g1
      have hd1 := g1.at hd
      have hu1 : upd H' u (.tup ((keyOf Gf M).map kV)) u = some (.tup ((keyOf Gf M).map kV)) := upd_same
      have row1 := g1.row row
      have ds1 : ∀ e ∈ ds, IsRow K (upd H' u (.tup ((keyOf Gf M).map kV))) e.r e.d := fun e he => g1.row (hds e he).1
      generalize hH1 : upd H' u (.tup ((keyOf Gf M).map kV)) = H1 at g1 gru hd1 hu1 row1 ds1
      have hH1' : upd H' u (.tup [V.int (low Gf M).1, V.int (low Gf M).2]) = H1 := hH1
      rw [hH1']
      -- the store at the end
      have store : ∀ (r' : Addr) (d' : Nat → Int) (H3 : Hp) (ds' : List Ent), Gr K H1 H3 → putK (ds.map (Ent.kv M)) (keyOf Gf M) (.ref r') = ds'.map (Ent.kv M) → (ds'.map Ent.G).Nodup →
          (∀ e ∈ ds', IsRow K H3 e.r e.d ∧ RW.Gains e.d M e.G N ∧ (e.G = G1 ∨ e.G = G2) ∧ ∀ n, ∃ x ∈ rs.take (i + 1), e.d n = x.2 n) → (∀ x ∈ rs.take (i + 1), ∃ e ∈ ds', ∀ n, e.d n ≤ x.2 n) →
          ∃ a H4, V.ref D = .ref a ∧ DPut H3 a (.ref u) (.ref r') H4 ∧ (Gr K H H4 ∧ ∃ (j2 j3 : Option V) (ds : List Ent), [some (.ref l), some (.ref D), some (.ref p), some (.ref u), none, none] = [some (.ref l), some (.ref D), j2, j3, none, none] ∧ H4 D = some (.dT (ds.map (Ent.kv M))) ∧ (ds.map Ent.G).Nodup ∧
      (∀ e ∈ ds, IsRow K H4 e.r e.d ∧ RW.Gains e.d M e.G N ∧ (e.G = G1 ∨ e.G = G2) ∧ ∀ n, ∃ x ∈ rs.take (i + 1), e.d n = x.2 n) ∧ ∀ x ∈ rs.take (i + 1), ∃ e ∈ ds, ∀ n, e.d n ≤ x.2 n) := by
        intro r' d' H3 ds' g3 ep nd' hds' hall'
        have hd3 := g3.at hd1
        refine ⟨D, _, rfl, DPut.t hd3 (g3.tup hu1) (by rw [List.length_map]; exact sizedL (by omega)), (gru.trans g3).put hD hd3 (by intro _ z; cases z) (by intro _ z; cases z), _, _, ds', rfl, ?_, nd', fun e he => ?_, hall'⟩
        · rw [upd_same, ep]
        · obtain ⟨q1, q2⟩ := hds' e he
          exact ⟨row_upd q1 hd3 (by intro _ _ _ z; cases z) (by intro _ z; cases z), q2⟩
      by_cases hin : ∃ e ∈ ds, e.G = Gf
      · obtain ⟨e0, he0, eG⟩ := hin
        have hv : valV (ds.map (Ent.kv M)) (keyOf Gf M) = some (.ref e0.r) := by rw [← eG]; exact valV_ent mh ds e0 he0 nd
        refine ⟨_, rfl, _, rfl, D, _, rfl, DGet.t hd1 hu1, true, by rw [hv]; rfl, ?_⟩
        obtain ⟨q1, q2, q3, q4⟩ := hds e0 he0
        rw [eG] at q2
        refine ⟨_, rfl, _, rfl, D, _, rfl, by have := DGet.t (a := D) (b := u) (k := keyOf Gf M) hd1 hu1; rw [hv] at this; exact this, ?_⟩
        refine ⟨_, rfl, e0.r, p, e0.d, f, rfl, gru.tab hT, ds1 e0 he0, row1, ⟨M, N, Gf, Gf, L, mh, q2, hGf, .inl rfl, bd⟩, fun r2 H3 g3 r3 => ?_⟩
        refine ⟨_, rfl, _, rfl, ?_⟩
        refine store r2 (RW.lo2 e0.d f) H3 (ds.map fun x => if x.G = e0.G then ⟨r2, RW.lo2 e0.d f, Gf⟩ else x) g3 ?_ ?_ (fun e he => ?_) (fun x hx => ?_)
        · have := putK_ent mh he0 ⟨r2, RW.lo2 e0.d f, Gf⟩ eG.symm
          rw [eG] at this ⊢
          exact this
        · rw [List.map_map]
          have : (Ent.G ∘ fun x : Ent => if x.G = e0.G then (⟨r2, RW.lo2 e0.d f, Gf⟩ : Ent) else x) = Ent.G := by
            funext x
            show (if x.G = e0.G then (⟨r2, RW.lo2 e0.d f, Gf⟩ : Ent) else x).G = x.G
            split
            · rename_i z; rw [z, eG]
            · rfl
          rw [this]
          exact nd
        · obtain ⟨y, hy, rfl⟩ := List.mem_map.mp he
          by_cases z : y.G = e0.G
          · rw [if_pos z]
            refine ⟨r3, q2.lo2 hGf, hG12, fun n => ?_⟩
            rw [tk]
            rcases RW.lo2_or e0.d f n with z | z
            · obtain ⟨x, hx, e⟩ := q4 n
              exact ⟨x, List.mem_append_left _ hx, z.trans e⟩
            · exact ⟨(p, f), by simp, z⟩
          · rw [if_neg z]
            obtain ⟨y1, y2, y3, y4⟩ := hds y hy
            refine ⟨g3.row (ds1 y hy), y2, y3, fun n => ?_⟩
            obtain ⟨x, hx, e⟩ := y4 n
            exact ⟨x, by rw [tk]; exact List.mem_append_left _ hx, e⟩
        · rw [tk] at hx
          rcases List.mem_append.mp hx with hx | hx
          · obtain ⟨y, hy, hle⟩ := hall x hx
            by_cases z : y.G = e0.G
            · have ey : y = e0 := nodup_inj nd hy he0 z
              subst ey
              exact ⟨_, List.mem_map_of_mem hy, fun n => by rw [if_pos rfl]; exact Int.le_trans (RW.lo2_le_l _ _ n) (hle n)⟩
            · exact ⟨_, List.mem_map_of_mem hy, fun n => by rw [if_neg z]; exact hle n⟩
          · have := List.mem_singleton.mp hx
            subst this
            exact ⟨_, List.mem_map_of_mem he0, fun n => by rw [if_pos rfl]; exact RW.lo2_le_r _ _ n⟩
      · have hno : ∀ e ∈ ds, e.G = Gf → False := fun e he z => hin ⟨e, he, z⟩
        have hv := valV_ents mh Gf ds hno
        refine ⟨_, rfl, _, rfl, D, _, rfl, DGet.t hd1 hu1, false, by rw [hv]; rfl, ?_⟩
        refine ⟨_, rfl, _, rfl, _, rfl, ?_⟩
        refine store p f H1 (ds ++ [⟨p, f, Gf⟩]) (Ge.refl _) (putK_new' mh ⟨p, f, Gf⟩ hno) ?_ (fun e he => ?_) (fun x hx => ?_)
        · rw [List.map_append]
          refine List.nodup_append.mpr ⟨nd, by simp, fun a ha b hb z => ?_⟩
          obtain ⟨e, he, rfl⟩ := List.mem_map.mp ha
          simp at hb
          exact hno e he (z.trans hb)
        · rcases List.mem_append.mp he with he | he
          · obtain ⟨y1, y2, y3, y4⟩ := hds e he
            refine ⟨ds1 e he, y2, y3, fun n => ?_⟩
            obtain ⟨x, hx, e⟩ := y4 n
            exact ⟨x, by rw [tk]; exact List.mem_append_left _ hx, e⟩
          · have := List.mem_singleton.mp he
            subst this
            exact ⟨row1, hGf, hG12, fun n => ⟨(p, f), by rw [tk]; simp, rfl⟩⟩
        · rw [tk] at hx
          rcases List.mem_append.mp hx with hx | hx
          · obtain ⟨y, hy, hle⟩ := hall x hx
            exact ⟨y, List.mem_append_left _ hy, hle⟩
          · have := List.mem_singleton.mp hx
            subst this
            exact ⟨⟨p, f, Gf⟩, by simp, fun n => Int.le_refl _⟩
    · obtain ⟨gr, j2, j3, ds, rfl, hd, nd, hds, hall⟩ := h
      have tkall : rs.take (rs.map fun x => V.ref x.1).length = rs := by rw [List.length_map, List.take_length]
      rw [tkall] at hds hall
      have dl : ds.length ≤ 2 := by
        have := nodup_two (a := G1) (b := G2) nd fun y hy => by
          obtain ⟨e, he, rfl⟩ := List.mem_map.mp hy
          exact (hds e he).2.2.1
        simpa using this
      refine ⟨_, rfl, .inr (.inr (.inl ⟨rfl, .inr ⟨_, hd⟩⟩)), D, _, rfl, rfl, hd, fun v nv => ?_⟩
      have g1 : Gr K H' (upd H' v (valsO v D)) := Ge.new nv
      refine ⟨v, D, _, rfl, upd_same, g1.at hd, fun l4 n4 => ?_⟩
      have g2 : Gr K H' (upd (upd H' v (valsO v D)) l4 (.lst ((ds.map (Ent.kv M)).map (·.2)))) := g1.trans (Ge.new n4)
      rw [List.map_map] at g2 ⊢
      rw [show ((fun x : List Key × V => x.2) ∘ Ent.kv M) = fun e : Ent => V.ref e.r from rfl] at g2 ⊢
      have h4 : (upd (upd H' v (valsO v D)) l4 (.lst (ds.map fun e : Ent => V.ref e.r))) l4 = some (.lst (ds.map fun e : Ent => V.ref e.r)) := upd_same
      generalize upd (upd H' v (valsO v D)) l4 (.lst (ds.map fun e : Ent => V.ref e.r)) = H4 at g2 h4 ⊢
      have gr4 := gr.trans g2
      have dsr : ∀ e ∈ ds, IsRow K H4 e.r e.d := fun e he => g2.row (hds e he).1
      match ds, hds, hall, dl, h4, dsr, nd with
      | [], _, hall, _, _, _, _ =>
        exfalso
        obtain ⟨x, hx⟩ := List.exists_mem_of_ne_nil rs hne
        obtain ⟨e, he, _⟩ := hall x hx
        cases he
      | e0 :: rest, hds, hall, dl, h4, dsr, nd =>
        refine ⟨_, rfl, l4, _, _, _, rfl, rfl, .of h4, atI_eq (j := 0) rfl rfl, ?_⟩
        refine ⟨_, rfl, _, rfl, l4, _, rfl, .of h4, fun l5 n5 => ?_⟩
        rw [show cutV ((e0 :: rest).map fun e : Ent => V.ref e.r) (some 1) none = rest.map fun e : Ent => V.ref e.r by
          have := cut_drop (xs := (e0 :: rest).map fun e : Ent => V.ref e.r) (k := 1) (by simp)
          simpa using this]
        have g5 : Gr K H4 (upd H4 l5 (.lst (rest.map fun e : Ent => V.ref e.r))) := Ge.new n5
        have h5 : upd H4 l5 (.lst (rest.map fun e : Ent => V.ref e.r)) l5 = some (.lst (rest.map fun e : Ent => V.ref e.r)) := upd_same
        generalize upd H4 l5 (.lst (rest.map fun e : Ent => V.ref e.r)) = H5 at g5 h5 ⊢
        have gr5 := gr4.trans g5
        refine ⟨l5, rfl, ⟨_, .of h5⟩, ?_⟩
        refine for_list (K := K) h5 (fun i σ H' => Gr K H5 H' ∧ ∃ (j2 j3 : Option V) (r : Addr) (g : Nat → Int), σ = [some (.ref l), some (.ref D), j2, j3, some (.ref l4), some (.ref r)] ∧ IsRow K H' r g ∧ (i = 0 → g = e0.d) ∧ (∀ n, ∃ e ∈ e0 :: rest.take i, g n = e.d n) ∧ ∀ e ∈ e0 :: rest.take i, ∀ n, g n ≤ e.d n)
          ⟨Ge.refl _, _, _, e0.r, e0.d, rfl, g5.row (dsr e0 (by simp)), fun _ => rfl, fun n => ⟨e0, by simp, rfl⟩, fun e he n => by
            have : e = e0 := by simpa using he
            rw [this]; exact Int.le_refl _⟩ (fun i σ H' h => h.1) (fun i x σ H' hx h => ?_) (fun σ H' h => ?_)
        · obtain ⟨g6, j2, j3, r, g, rfl, rg, hz, h1, h2⟩ := h
          have rl : rest.length ≤ 1 := by simpa using dl
          obtain ⟨e1, he1, rfl⟩ : ∃ e1, rest[i]? = some e1 ∧ x = V.ref e1.r := by
            rw [List.getElem?_map] at hx
            cases e : rest[i]? with
            | none => rw [e] at hx; cases hx
            | some pf => rw [e] at hx; cases hx; exact ⟨pf, rfl, rfl⟩
          have hi : i < rest.length := (List.getElem?_eq_some_iff.mp he1).1
          have i0 : i = 0 := by omega
          subst i0
          have m1 : e1 ∈ rest := List.mem_of_getElem? he1
          obtain ⟨q1, q2, q3, q4⟩ := hds e0 (by simp)
          obtain ⟨p1, p2, p3, p4⟩ := hds e1 (by simp [m1])
          have ne : e0.G ≠ e1.G := fun z => by
            rw [List.map_cons] at nd
            exact (List.nodup_cons.mp nd).1 (by rw [z]; exact List.mem_map_of_mem m1)
          have G12 : ∀ f ∈ rs.map (·.2), ∀ g ∈ rs.map (·.2), ∀ n : Nat, n < N + M + M → f n - g n ≤ (L : Int) := by
            rcases fam.lk with z | z
            · exfalso
              rcases q3 with a | a <;> rcases p3 with b | b <;> first | exact ne (a.trans b.symm) | exact ne (a.trans (z.trans b.symm)) | exact ne (a.trans (z.symm.trans b.symm))
            · exact z
          have hg := hz rfl
          subst hg
          have lot : LotOk e0.d e1.d := ⟨M, N, e0.G, e1.G, L, mh, q2, p2, .inr fun n hn => by
            obtain ⟨x, hx, ex⟩ := q4 n
            obtain ⟨y, hy, ey⟩ := p4 n
            have a := G12 x.2 (List.mem_map_of_mem hx) y.2 (List.mem_map_of_mem hy) n hn
            have b := G12 y.2 (List.mem_map_of_mem hy) x.2 (List.mem_map_of_mem hx) n hn
            rw [ex, ey]
            exact ⟨a, b⟩, bd⟩
          refine ⟨_, rfl, _, rfl, r, e1.r, e0.d, e1.d, rfl, (gr5.trans g6).tab hT, rg, (g5.trans g6).row (dsr e1 (by simp [m1])), lot, fun r2 H7 g7 r7 => ?_⟩
          have tk : rest.take (0 + 1) = [e1] := by
            match rest, rl, he1 with
            | [x], _, he1 => simp at he1; simp [he1]
            | _ :: _ :: _, rl, _ => simp at rl
          refine ⟨g6.trans g7, _, _, r2, RW.lo2 e0.d e1.d, rfl, r7, fun z => by omega, fun n => ?_, fun e he n => ?_⟩
          · rw [tk]
            rcases RW.lo2_or e0.d e1.d n with z | z
            · exact ⟨e0, by simp, z⟩
            · exact ⟨e1, by simp, z⟩
          · rw [tk] at he
            rcases List.mem_cons.mp he with rfl | he
            · exact RW.lo2_le_l _ _ n
            · have := List.mem_singleton.mp he
              rw [this]
              exact RW.lo2_le_r _ _ n
        · obtain ⟨g6, j2, j3, r, g, rfl, rg, _, h1, h2⟩ := h
          rw [show rest.take (rest.map fun e : Ent => V.ref e.r).length = rest by rw [List.length_map, List.take_length]] at h1 h2
          refine ⟨_, rfl, fin r H' g (gr5.trans g6) rg fun n => ⟨?_, fun f hf => ?_⟩⟩
          · obtain ⟨e, he, eq⟩ := h1 n
            obtain ⟨x, hx, ex⟩ := (hds e he).2.2.2 n
            exact ⟨x.2, List.mem_map_of_mem hx, eq.trans ex⟩
          · obtain ⟨x, hx, rfl⟩ := List.mem_map.mp hf
            obtain ⟨e, he, hle⟩ := hall x hx
            exact Int.le_trans (h2 e he n) (hle n)
end
end K17
set_option Elab.async false
set_option linter.all false
set_option maxRecDepth 100000
set_option maxHeartbeats 4000000
/-! comprehensions that make rows; loops over enumerate -/
namespace K17
open PySem PySem.Spec PyProof.Rows L2 LamX
section
variable {K : PySem.W.Frag} {g : TG} {te : TE} {vs : List Nat} {σ : L2.St} {H1 : Hp} {D : Addr} {Qd : Hp → Prop}
theorem rows_snoc {H : Hp} {l : Addr} {rs : List (Addr × (Nat → Int))} {q : Addr} {f : Nat → Int} (h : ∀ x ∈ rs, IsRow K H x.1 x.2) (r : IsRow K H q f) : ∀ x ∈ rs ++ [(q, f)], IsRow K H x.1 x.2 := fun x hx => by
  rcases List.mem_append.mp hx with hx | hx
  · exact h x hx
  · rw [List.mem_singleton.mp hx]; exact r
/-- [e for x in ..], the i-th element a new row that is F i -/
theorem lc_rows {J : It} {n : Nat} (F : Nat → Nat → Int) (xs : Nat → V) (hD : H1 D = none) (hn : n ≤ 16777216) (hgo : ∀ i H, i < n → Gr K H1 H → J.go i H) (hst : ∀ H, Gr K H1 H → J.stop n H) (hy : ∀ i H x H', i < n → Gr K H1 H → J.yld i H x H' → H' = H ∧ x = xs i)
    (hs : ∀ i H (Q : VK), i < n → Gr K H1 H → (∀ q H4, Gr K H H4 → IsRow K H4 q (F i) → Q (.ref q) H4) → g (xs i) (wipe σ vs) H fun σ2 H2 => wipe σ2 vs = wipe σ vs ∧ te σ2 H2 Q)
    (hd : ∀ H rs, Gr K H1 H → Rows K H D rs → rs.map (·.2) = (List.range n).map F → Qd H) :
    ∃ W : Nat → Nat → Hp → Prop, (∃ m, W 0 m (upd H1 D (.lst []))) ∧ ∀ i m H, W i m H →
      (J.stop i H ∧ Qd H) ∨ (J.go i H ∧ ∃ Nx : Hp → Prop, (∀ H', Nx H' → ∃ m', m' < m ∧ W (i + 1) m' H') ∧ ∀ x H', J.yld i H x H' → g x (wipe σ vs) H' fun σ2 H2 => wipe σ2 vs = wipe σ vs ∧ tYes σ2 H2 fun b H3 =>
        if b = true then te σ2 H3 fun y H4 => ∃ acc, H4 D = some (.lst acc) ∧ acc.length < sizeLine ∧ Nx (upd H4 D (.lst (acc ++ [y]))) else Nx H3) := by
  refine lc_any (n := n) (fun i H => i ≤ n ∧ Gr K H1 H ∧ ∃ rs, Rows K H D rs ∧ rs.map (·.2) = (List.range i).map F) ⟨Nat.zero_le _, Ge.new hD, [], ⟨upd_same, by simp⟩, rfl⟩ (fun i H hi hP => hgo i H hi hP.2.1) (fun H hP => hst H hP.2.1) (fun i x H H' hi hP hyl => ?_) (fun H hP => let ⟨rs, h1, h2⟩ := hP.2.2; hd H rs hP.2.1 h1 h2)
  obtain ⟨rfl, rfl⟩ := hy i H x H' hi hP.2.1 hyl
  obtain ⟨h0, gr, rs, ⟨hl, hr⟩, he⟩ := hP
  have len : rs.length = i := by have := congrArg List.length he; simpa using this
  refine hs i H' (fun y H4 => ∃ acc, H4 D = some (.lst acc) ∧ acc.length < sizeLine ∧ (i + 1 ≤ n ∧ Gr K H1 (upd H4 D (.lst (acc ++ [y]))) ∧ ∃ rs, Rows K (upd H4 D (.lst (acc ++ [y]))) D rs ∧ rs.map (·.2) = (List.range (i + 1)).map F)) hi gr fun q H4 g4 r4 => ?_
  have hd4 := g4.lst hl
  refine ⟨_, hd4, sizedL (by simp; omega), hi, (gr.trans g4).put hD hd4 (by intro _ z; cases z) (by intro _ z; cases z), rs ++ [(q, F i)], ⟨?_, fun x hx => ?_⟩, ?_⟩
  · rw [upd_same, List.map_append]; rfl
  · exact row_upd (rows_snoc (l := D) (fun x hx => g4.row (hr x hx)) r4 x hx) hd4 (by intro _ _ _ z; cases z) (by intro _ z; cases z)
  · rw [List.map_append, he, ← range_snoc]; rfl
theorem lcr_rng {lo : Int} {n : Nat} (F : Nat → Nat → Int) (hD : H1 D = none) (hn : n ≤ 16777216)
    (hs : ∀ i H (Q : VK), i < n → Gr K H1 H → (∀ q H4, Gr K H H4 → IsRow K H4 q (F i) → Q (.ref q) H4) → g (.int (lo + i)) (wipe σ vs) H fun σ2 H2 => wipe σ2 vs = wipe σ vs ∧ te σ2 H2 Q)
    (hd : ∀ H rs, Gr K H1 H → Rows K H D rs → rs.map (·.2) = (List.range n).map F → Qd H) :
    ∃ W : Nat → Nat → Hp → Prop, (∃ m, W 0 m (upd H1 D (.lst []))) ∧ ∀ i m H, W i m H →
      ((Itr lo n).stop i H ∧ Qd H) ∨ ((Itr lo n).go i H ∧ ∃ Nx : Hp → Prop, (∀ H', Nx H' → ∃ m', m' < m ∧ W (i + 1) m' H') ∧ ∀ x H', (Itr lo n).yld i H x H' → g x (wipe σ vs) H' fun σ2 H2 => wipe σ2 vs = wipe σ vs ∧ tYes σ2 H2 fun b H3 =>
        if b = true then te σ2 H3 fun y H4 => ∃ acc, H4 D = some (.lst acc) ∧ acc.length < sizeLine ∧ Nx (upd H4 D (.lst (acc ++ [y]))) else Nx H3) :=
  lc_rows F (fun i => .int (lo + i)) hD hn (fun i H hi _ => hi) (fun H _ => Nat.le_refl n) (fun i H x H' _ _ h => h) hs hd
theorem lcr_lst {a : Addr} {rs0 : List (Addr × (Nat → Int))} (φ : (Nat → Int) → Nat → Int) (hD : H1 D = none) (hl : Rows K H1 a rs0) (hn : rs0.length ≤ 16777216)
    (hs : ∀ p f H (Q : VK), (p, f) ∈ rs0 → Gr K H1 H → (∀ q H4, Gr K H H4 → IsRow K H4 q (φ f) → Q (.ref q) H4) → g (.ref p) (wipe σ vs) H fun σ2 H2 => wipe σ2 vs = wipe σ vs ∧ te σ2 H2 Q)
    (hd : ∀ H rs, Gr K H1 H → Rows K H D rs → rs.map (·.2) = (rs0.map (·.2)).map φ → Qd H) :
    ∃ W : Nat → Nat → Hp → Prop, (∃ m, W 0 m (upd H1 D (.lst []))) ∧ ∀ i m H, W i m H →
      ((Itl K a).stop i H ∧ Qd H) ∨ ((Itl K a).go i H ∧ ∃ Nx : Hp → Prop, (∀ H', Nx H' → ∃ m', m' < m ∧ W (i + 1) m' H') ∧ ∀ x H', (Itl K a).yld i H x H' → g x (wipe σ vs) H' fun σ2 H2 => wipe σ2 vs = wipe σ vs ∧ tYes σ2 H2 fun b H3 =>
        if b = true then te σ2 H3 fun y H4 => ∃ acc, H4 D = some (.lst acc) ∧ acc.length < sizeLine ∧ Nx (upd H4 D (.lst (acc ++ [y]))) else Nx H3) := by
  have at_ : ∀ i, i < rs0.length → (rs0.map fun x => V.ref x.1)[i]? = some (.ref (rs0.getD i (0, fun _ => 0)).1) := fun i hi => by rw [List.getElem?_map, List.getElem?_eq_getElem hi, List.getD, List.getElem?_eq_getElem hi]; rfl
  refine lc_rows (n := rs0.length) (fun i => φ (rs0.getD i (0, fun _ => 0)).2) (fun i => .ref (rs0.getD i (0, fun _ => 0)).1) hD hn (fun i H hi g => ⟨_, _, .of (g.lst hl.1), at_ i hi⟩) (fun H g => ⟨_, .of (g.lst hl.1), by simp⟩) (fun i H x H' hi g h => ⟨h.1, Option.some.inj ((h.2 _ (.of (g.lst hl.1))).symm.trans (at_ i hi))⟩) (fun i H Q hi g q => hs _ _ H Q ?_ g q) (fun H rs g hr he => hd H rs g hr ?_)
  · rw [List.getD, List.getElem?_eq_getElem hi]
    exact List.getElem_mem hi
  · rw [he]
    apply List.ext_getElem
    · simp
    · intro i h1 h2
      have hi : i < rs0.length := by simpa using h2
      simp [List.getD, List.getElem?_eq_getElem hi]
end
section
variable {K : PySem.W.Frag} {g : TG} {tb : TS} {D : Ends} {σ : L2.St} {H : Hp} {a : Addr} {xs : List V}
/-- for i, x in enumerate(a list that stays) -/
theorem for_enum (Pv : Nat → L2.St → Hp → Prop) (h0 : Pv 0 σ H) (hg : ∀ i σ H', Pv i σ H' → H' a = some (.lst xs))
    (hs : ∀ i x T σ H', xs[i]? = some x → Pv i σ H' → H' T = none → g (.ref T) σ (upd H' T (.tup [.int i, x])) fun σ2 H2 => tb { D with nx := Pv (i + 1), ct := Pv (i + 1), bk := D.nx } σ2 H2) (hd : ∀ σ H', Pv xs.length σ H' → D.nx σ H') :
    ∃ W : Nat → Nat → L2.St → Hp → Prop, (∃ m, W 0 m σ H) ∧ ∀ i m σ H, W i m σ H →
      ((Ite K a).stop i H ∧ D.nx σ H) ∨ ((Ite K a).go i H ∧ ∃ N : L2.St → Hp → Prop, (∀ σ' H', N σ' H' → ∃ m', m' < m ∧ W (i + 1) m' σ' H') ∧ ∀ x H', (Ite K a).yld i H x H' → g x σ H' fun σ2 H2 => tb { D with nx := N, ct := N, bk := D.nx } σ2 H2) := by
  have at_ : ∀ i, i < xs.length → xs[i]? = some (xs.getD i .non) := fun i hi => by rw [List.getD, List.getElem?_eq_getElem hi]; rfl
  refine for_any (n := xs.length) Pv h0 (fun i σ H' hi p => ⟨xs, _, .of (hg i σ H' p), at_ i hi⟩) (fun σ H' p => ⟨xs, .of (hg _ σ H' p), Nat.le_refl _⟩) (fun i x σ H2 H' hi p h => ?_) hd
  obtain ⟨T, y, rfl, hT, e3, e4⟩ := h
  have := e4 _ (.of (hg i σ H2 p))
  rw [e3]
  exact hs i y T σ H2 this p hT
end
end K17
set_option Elab.async false
set_option linter.all false
set_option maxRecDepth 100000
set_option maxHeartbeats 4000000
namespace K17
open PySem PySem.Spec PyProof.Rows L2 LamX NdefX
section
variable {P : Program} {w : World} {K : PySem.W.Frag} {mg : Str → Option Value} {base : Heap}
theorem Rows.gr {T : List (Addr × Str)} {H H' : Hp} {l : Addr} {rs : List (Addr × (Nat → Int))} (r : Rows K H l rs) (g : Ge T H H') : Rows K H' l rs := ⟨g.lst r.1, fun x hx => g.row (r.2 x hx)⟩
theorem sc_check_rows : FnScope ["rows", "index", "row"] ["rows"] (defScope (topS 25)) := ⟨rfl, rfl, rfl, by decide +kernel, rfl, by decide +kernel, by decide +kernel⟩
def spCheckRows (K : PySem.W.Frag) : Sp := fun vs H Q _ => ∃ (l : Addr) (rs : List (Addr × (Nat → Int))), vs = [.ref l] ∧ Rows K H l rs ∧ rs ≠ [] ∧ ∀ H', Gr K H H' → Q .non H'
theorem ok_check_rows (X : Txt K mg) : Ok P w K mg base CX0 2 "check_rows" ["rows"] (spCheckRows K) := by
  refine ok_def0 X 11 rfl sc_check_rows (by decide +kernel) (fun vs H Q E h => ?_) (fun _ _ _ _ _ _ us hl => match us, hl with | [_], _ => rfl) (fun f cdv A outer s H vs Q E hr h => ?_)
  · obtain ⟨p, f, rfl, _⟩ := h; rfl
  · obtain ⟨l, rs, rfl, hR, hne, q⟩ := h
    have hlen : 0 < rs.length := by cases rs with
      | nil => exact absurd rfl hne
      | cons _ _ => simp
    refine ⟨_, (pss_cons (ps_if (PW.pt (pw_or (pt_not (pt_val (pe_o (ok_is_list X) hr pass0 (pa_cons (pv 0) pa_nil)))) (pw_or1 (pt_cmpR op_eq (pe_callB (len_K (K := K)) (by rfl) X.b_len (by decide +kernel) (pa_cons (pv 0) pa_nil)) pe_int (nomark _)))))
  (pss_one ps_never)
  pss_nil)
  (pss_one (ps_for PassesOwn.never rfl (piE_K (K := K) X.b_enumerate (pa_cons (pv 0) pa_nil)) (tup_K (K := K) (pgs_cons (pg_name (i := 1) sc_check_rows.nd rfl (.inl rfl)) (pgs_cons (pg_name (i := 2) sc_check_rows.nd rfl (.inl rfl)) pgs_nil)))
  (pss_one (ps_if (pt_not (pt_val (pe_callB (isi_K (K := K)) (by rfl) X.b_isinstance (by decide +kernel) (pa_cons (pv 2) (pa_cons (pe_glob (v := .ref (rowC K)) (by rfl) (X.g "Row" (by decide +kernel)) rfl) pa_nil)))))
  (pss_one ps_never)
  pss_nil))))), ?_⟩
    refine ⟨_, rfl, l, _, rfl, .inl hR.1, fun H1 g1 => ⟨true, rfl, ?_⟩⟩
    refine ⟨_, rfl, l, _, rfl, .inl (.of (g1.lst hR.1)), rfl, _, rfl, iteDF (by simpa using hne) ?_⟩
    refine ⟨_, rfl, l, _, rfl, .inl ⟨.of (g1.lst hR.1), ?_⟩⟩
    refine for_enum (K := K) (xs := rs.map fun x => V.ref x.1) (fun i σ H' => Gr K H H' ∧ ∃ j1 j2, σ = [some (.ref l), j1, j2]) ⟨g1, none, none, rfl⟩ (fun i σ H' h => h.1.lst hR.1) (fun i x T σ H' hx h hT => ?_) (fun σ H' h => q H' h.1)
    obtain ⟨gr, j1, j2, rfl⟩ := h
    obtain ⟨p, f, hm, rfl⟩ : ∃ p f, (p, f) ∈ rs ∧ x = V.ref p := by
      rw [List.getElem?_map] at hx
      cases e : rs[i]? with
      | none => rw [e] at hx; cases hx
      | some pf => rw [e] at hx; cases hx; exact ⟨pf.1, pf.2, List.mem_of_getElem? e, rfl⟩
    have gT : Gr K H' (upd H' T (.tup [.int i, .ref p])) := Ge.new hT
    refine ⟨T, _, rfl, .of upd_same, rfl, _, _, rfl, _, _, rfl, rfl, ?_⟩
    refine ⟨_, rfl, _, _, _, _, true, rfl, .own _, tyRow X ((gr.trans gT).row (hR.2 _ hm)), X.rr, true, rfl, ?_⟩
    exact ⟨gr.trans gT, _, _, rfl⟩
theorem sc_least_of : FnScope ["rows"] ["rows"] (defScope (topS 32)) := ⟨rfl, rfl, rfl, by decide +kernel, rfl, by decide +kernel, by decide +kernel⟩
theorem ok_least_of (X : Txt K mg) (TB : TabB base mg (He.cT K ("least_of_two", none)).1 (He.cT K ("least_of_two", none)).2) : Ok P w K mg base CX0 9 "least_of" ["rows"] (spAmong K) := by
  refine ok_def0 X 18 rfl sc_least_of (by decide +kernel) (fun vs H Q E h => ?_) (fun _ _ _ _ _ _ us hl => match us, hl with | [_], _ => rfl) (fun f cdv A outer s H vs Q E hr h => ?_)
  · obtain ⟨l, rs, _, _, _, _, _, rfl, _⟩ := h; rfl
  · obtain ⟨l, rs, M, N, L, G1, G2, rfl, hT, hR, hne, fam, fin⟩ := h
    refine ⟨_, (pss_cons (ps_expr (pe_o (ok_check_rows X) hr pass0 (pa_cons (pv 0) pa_nil)))
  (pss_one (ps_ret (pe_o (ok_least_among X TB) hr pass0 (pa_cons (pv 0) pa_nil))))), ?_⟩
    refine ⟨_, rfl, l, rs, rfl, hR, hne, fun H1 g1 => ?_⟩
    exact ⟨_, rfl, l, rs, M, N, L, G1, G2, rfl, g1.tab hT, hR.gr g1, hne, fam, fun r H' g g2 => fin r H' g (g1.trans g2)⟩
/-! ### the greatest -/
def negF (f : Nat → Int) : Nat → Int := fun n => - f n
theorem row_neg {H : Hp} {p : Addr} {f : Nat → Int} (h : IsRow K H p f) : IsRow K H p (negF (negF f)) := h.congr fun n => by unfold negF; omega
theorem sc_greatest_of : FnScope ["rows", "row"] ["rows"] (defScope (topS 34)) := ⟨rfl, rfl, rfl, by decide +kernel, rfl, by decide +kernel, by decide +kernel⟩
def spGreatest (K : PySem.W.Frag) : Sp := fun vs H Q _ => ∃ (l : Addr) (rs : List (Addr × (Nat → Int))) (M N L : Nat) (G1 G2 : Int), vs = [.ref l] ∧ Tabs (tbs K) H ∧ Rows K H l rs ∧ rs ≠ [] ∧ rs.length ≤ 16777216 ∧ Fam ((rs.map (·.2)).map negF) M N L G1 G2 ∧
  ∀ r H' g, Gr K H H' → IsRow K H' r (negF g) → Lowest ((rs.map (·.2)).map negF) g → Q (.ref r) H'
theorem ok_greatest_of (X : Txt K mg) (TB : TabB base mg (He.cT K ("least_of_two", none)).1 (He.cT K ("least_of_two", none)).2) : Ok P w K mg base CX0 9 "greatest_of" ["rows"] (spGreatest K) := by
  refine ok_def0 X 20 rfl sc_greatest_of (by decide +kernel) (fun vs H Q E h => ?_) (fun _ _ _ _ _ _ us hl => match us, hl with | [_], _ => rfl) (fun f cdv A outer s H vs Q E hr h => ?_)
  · obtain ⟨l, rs, _, _, _, _, _, rfl, _⟩ := h; rfl
  · obtain ⟨l, rs, M, N, L, G1, G2, rfl, hT, hR, hne, hz, fam, fin⟩ := h
    refine ⟨_, (pss_cons (ps_expr (pe_o (ok_check_rows X) hr pass0 (pa_cons (pv 0) pa_nil)))
  (pss_one (ps_ret (pe_o (ok_turned_about X) hr pass0 (pa_cons (pe_o (ok_least_among X TB) hr pass0 (pa_cons (pe_lc (own := [("row", 1)]) (g := (gName 1)) (tt := tYes) rfl sc_greatest_of.nd (piL_K (K := K) (pv 0)) (blkOk_by (N := ["rows", "row"]) (sc := defScope (topS 34)) (by decide +kernel)) (fun _ _ _ _ _ => (pg_name (i := 1) sc_greatest_of.nd rfl (.inl rfl))) (fun _ _ _ _ _ => pts_nil) (fun _ _ _ _ _ => (pe_o (ok_turned_about X) hr pass0 (pa_cons (pv 1) pa_nil)))) pa_nil)) pa_nil))))), ?_⟩
    refine ⟨_, rfl, l, rs, rfl, hR, hne, fun H1 g1 => ?_⟩
    have hR1 := hR.gr g1
    refine ⟨_, rfl, l, rfl, ⟨_, .of hR1.1⟩, fun D hD => ?_⟩
    refine lcr_lst (K := K) negF hD hR1 hz (fun p f H4 Q4 hp g4 q4 => ?_) (fun H4 rs4 g4 R4 e4 => ?_)
    · refine ⟨rfl, _, rfl, p, f, rfl, g4.row (hR1.2 _ hp), fun r H5 g5 r5 => q4 r H5 g5 r5⟩
    have gr := g1.trans g4
    rw [← e4] at fam fin
    refine ⟨D, rs4, M, N, L, G1, G2, rfl, gr.tab hT, R4, ?_, fam, fun r H5 g g5 r5 lo => ?_⟩
    · intro z
      rw [z] at e4
      have := congrArg List.length e4
      simp at this
      exact hne (List.length_eq_zero_iff.mp this.symm)
    exact ⟨r, g, rfl, r5, fun r6 H6 g6 r6' => fin r6 H6 g ((gr.trans g5).trans g6) r6' lo⟩
/-! ### two rows, their leads -/
theorem sc_check_two : FnScope ["one", "other"] ["one", "other"] (defScope (topS 45)) := ⟨rfl, rfl, rfl, by decide +kernel, rfl, by decide +kernel, by decide +kernel⟩
def spCheckTwo (K : PySem.W.Frag) : Sp := fun vs H Q _ => ∃ (p q : Addr) (f g : Nat → Int), vs = [.ref p, .ref q] ∧ IsRow K H p f ∧ IsRow K H q g ∧ Q .non H
theorem ok_check_two (X : Txt K mg) : Ok P w K mg base CX0 2 "check_two" ["one", "other"] (spCheckTwo K) := by
  refine ok_def0 X 30 rfl sc_check_two (by decide +kernel) (fun vs H Q E h => ?_) (fun _ _ _ _ _ _ us hl => match us, hl with | [_, _], _ => rfl) (fun f cdv A outer s H vs Q E hr h => ?_)
  · obtain ⟨p, q, f, g, rfl, _⟩ := h; rfl
  · obtain ⟨p, q, F, G, rfl, r1, r2, fin⟩ := h
    refine ⟨_, (pss_cons (ps_expr (pe_o (ok_check_row X) hr pass0 (pa_cons (pv 0) pa_nil)))
  (pss_one (ps_expr (pe_o (ok_check_row X) hr pass0 (pa_cons (pv 1) pa_nil))))), ?_⟩
    exact ⟨_, rfl, p, F, rfl, r1, _, rfl, q, G, rfl, r2, fin⟩
theorem sc_is_faster : FnScope ["one", "other"] ["one", "other"] (defScope (topS 46)) := ⟨rfl, rfl, rfl, by decide +kernel, rfl, by decide +kernel, by decide +kernel⟩
def spFaster (K : PySem.W.Frag) : Sp := fun vs H Q _ => ∃ (p q : Addr) (t u : RW.Tri), vs = [.ref p, .ref q] ∧ RowO K H p t ∧ RowO K H q u ∧ t.c.length ≤ 8000000 ∧ u.c.length ≤ 8000000 ∧ Q (.bl (decide (u.g * t.c.length < t.g * u.c.length))) H
theorem ok_is_faster (X : Txt K mg) : Ok P w K mg base CX0 1 "is_faster" ["one", "other"] (spFaster K) := by
  refine ok_def0 X 31 rfl sc_is_faster (by decide +kernel) (fun vs H Q E h => ?_) (fun _ _ _ _ _ _ us hl => match us, hl with | [_, _], _ => rfl) (fun f cdv A outer s H vs Q E hr h => ?_)
  · obtain ⟨p, q, f, g, rfl, _⟩ := h; rfl
  · obtain ⟨p, q, t, u, rfl, ⟨dx1, e1, r1, x1, y1, z1⟩, ⟨dx2, e2, r2, x2, y2, z2⟩, tz, uz, fin⟩ := h
    refine ⟨_, (pss_one (ps_ret (pe_cmpR op_gt (pe_op op_mul (fld_K (K := K) (pv 0)) (pe_callB (len_K (K := K)) (by rfl) X.b_len (by decide +kernel) (pa_cons (fld_K (K := K) (pv 1)) pa_nil))) (pe_op op_mul (fld_K (K := K) (pv 1)) (pe_callB (len_K (K := K)) (by rfl) X.b_len (by decide +kernel) (pa_cons (fld_K (K := K) (pv 0)) pa_nil))) (nomark _)))), ?_⟩
    refine ⟨_, rfl, p, _, dx1, _, _, rfl, x1, X.cls, X.at3, rfl, ?_⟩
    refine ⟨_, rfl, q, _, dx2, _, _, rfl, x2, X.cls, X.at2, rfl, r2, _, rfl, .inr (.of z2), ?_⟩
    rw [List.length_map]
    refine ⟨_, _, rfl, rfl, .inr ⟨by omega, by omega⟩, ?_⟩
    refine ⟨_, rfl, q, _, dx2, _, _, rfl, x2, X.cls, X.at3, rfl, ?_⟩
    refine ⟨_, rfl, p, _, dx1, _, _, rfl, x1, X.cls, X.at2, rfl, r1, _, rfl, .inr (.of z1), ?_⟩
    rw [List.length_map]
    exact ⟨_, _, rfl, rfl, .inr ⟨by omega, by omega⟩, _, _, rfl, rfl, fin⟩
theorem sc_leads : FnScope ["one", "other"] ["one", "other"] (defScope (topS 51)) := ⟨rfl, rfl, rfl, by decide +kernel, rfl, by decide +kernel, by decide +kernel⟩
def spLeads (K : PySem.W.Frag) : Sp := fun vs H Q _ => ∃ (p q : Addr) (t u : RW.Tri), vs = [.ref p, .ref q] ∧ RowO K H p t ∧ RowO K H q u ∧ (0 < t.c.length ∧ t.c.length ≤ 8000000) ∧ (0 < u.c.length ∧ u.c.length ≤ 8000000) ∧ ∀ H', Gr K H H' → Q (.int (max t.h.length u.h.length + Nat.lcm t.c.length u.c.length : Nat)) H'
theorem ok_leads (X : Txt K mg) : Ok P w K mg base CX0 3 "leads" ["one", "other"] (spLeads K) := by
  refine ok_def0 X 36 rfl sc_leads (by decide +kernel) (fun vs H Q E h => ?_) (fun _ _ _ _ _ _ us hl => match us, hl with | [_, _], _ => rfl) (fun f cdv A outer s H vs Q E hr h => ?_)
  · obtain ⟨p, q, f, g, rfl, _⟩ := h; rfl
  · obtain ⟨p, q, t, u, rfl, O1, O2, h1, h2, fin⟩ := h
    refine ⟨_, (pss_one (ps_ret (pe_op op_add (pe_o (ok_behind_heads X) hr pass0 (pa_cons (pe_lst (pa_cons (pv 0) (pa_cons (pv 1) pa_nil))) pa_nil)) (pe_o (ok_round_of X) hr pass0 (pa_cons (pe_lst (pa_cons (pv 0) (pa_cons (pv 1) pa_nil))) pa_nil))))), ?_⟩
    refine ⟨_, rfl, _, rfl, by show 2 ≤ sizeLine; decide, fun l1 n1 => ?_⟩
    have g1 : Gr K H (upd H l1 (.lst [.ref p, .ref q])) := Ge.new n1
    refine ⟨l1, t, u, rfl, ⟨p, q, upd_same, g1.rowO O1, g1.rowO O2, h1, h2⟩, fun H2 g2 => ?_⟩
    have gr := g1.trans g2
    refine ⟨_, rfl, _, rfl, by show 2 ≤ sizeLine; decide, fun l2 n2 => ?_⟩
    have g3 := gr.trans (Ge.new (T := tbs K) (o := .lst [.ref p, .ref q]) n2)
    refine ⟨l2, t, u, rfl, ⟨p, q, upd_same, g3.rowO O1, g3.rowO O2, h1, h2⟩, ?_⟩
    refine ⟨_, _, rfl, rfl, ?_⟩
    exact fin _ g3
end
end K17
set_option linter.all false
/-! Rows' mathematics, C: the min-convolution. -/
namespace RW
theorem ev_cat {l : List Int} {t : Tri} (n : Nat) : ev ⟨l ++ t.h, t.c, t.g⟩ n = if n < l.length then l.getD n 0 else ev t (n - l.length) := by
  by_cases hk : n < l.length
  · rw [if_pos hk, ev_low (by simp; omega), getD_lt (by simp; omega), getD_lt hk, List.getElem_append_left hk]
  · rw [if_neg hk]
    by_cases hn : n - l.length < t.h.length
    · rw [ev_low hn, ev_low (by simp; omega), getD_lt (by simp; omega), getD_lt hn, List.getElem_append_right (by omega)]
    · rw [ev_high (t := t) (by omega), ev_high (by simp; omega)]
      simp only [List.length_append]
      rw [show n - (l.length + t.h.length) = n - l.length - t.h.length by omega]
/-- m is the least of f i + g (n - i) -/
def IsConv (f g : Nat → Int) (n : Nat) (m : Int) : Prop := (∃ i, i ≤ n ∧ m = f i + g (n - i)) ∧ ∀ i, i ≤ n → m ≤ f i + g (n - i)
theorem IsConv.uniq {f g : Nat → Int} {n : Nat} {a b : Int} (h : IsConv f g n a) (k : IsConv f g n b) : a = b := by
  obtain ⟨⟨i, hi, e1⟩, l1⟩ := h
  obtain ⟨⟨j, hj, e2⟩, l2⟩ := k
  have := l1 j hj
  have := l2 i hi
  omega
theorem IsConv.comm {f g : Nat → Int} {n : Nat} {m : Int} (h : IsConv f g n m) : IsConv g f n m := by
  obtain ⟨⟨i, hi, e⟩, l⟩ := h
  refine ⟨⟨n - i, by omega, ?_⟩, fun j hj => ?_⟩
  · rw [show n - (n - i) = i by omega, Int.add_comm]; exact e
  · have := l (n - j) (by omega)
    rw [show n - (n - j) = j by omega] at this
    omega
/-- the slower one takes the rest: i beyond N1 and j beyond N2 + M need not be looked at -/
theorem conv_move {f g : Nat → Int} {M N1 N2 : Nat} {G1 G2 : Int} (hM : 0 < M) (hf : Gains f M G1 N1) (hg : Gains g M G2 N2) (hG : G1 ≤ G2) {i j : Nat} (hi : N1 ≤ i) (hj : N2 + M ≤ j) : ∃ i' j', i' + j' = i + j ∧ j' < N2 + M ∧ N1 ≤ i' ∧ f i' + g j' ≤ f i + g j := by
  induction j using Nat.strongRecOn generalizing i with
  | _ j ih =>
    have a := hf i hi
    have b := hg (j - M) (by omega)
    rw [show j - M + M = j by omega] at b
    by_cases z : N2 + M ≤ j - M
    · obtain ⟨i', j', e, l, p, q⟩ := ih (j - M) (by omega) (i := i + M) (by omega) z
      exact ⟨i', j', by omega, l, p, by omega⟩
    · exact ⟨i + M, j - M, by omega, by omega, by omega, by omega⟩
/-- beyond place = N1 + N2 + M: one of few ways is the least -/
theorem conv_far {f g : Nat → Int} {M N1 N2 n : Nat} {G1 G2 m : Int} (hM : 0 < M) (hf : Gains f M G1 N1) (hg : Gains g M G2 N2) (hG : G1 ≤ G2)
    (h1 : (∃ i, i < N1 ∧ m = f i + g (N1 + (N2 + M) - i + n)) ∨ ∃ j, j < N2 + M ∧ m = g j + f (N1 + (N2 + M) - j + n))
    (h2 : ∀ i, i < N1 → m ≤ f i + g (N1 + (N2 + M) - i + n)) (h3 : ∀ j, j < N2 + M → m ≤ g j + f (N1 + (N2 + M) - j + n)) : IsConv f g (N1 + (N2 + M) + n) m := by
  refine ⟨?_, fun i hi => ?_⟩
  · rcases h1 with ⟨i, hi, e⟩ | ⟨j, hj, e⟩
    · exact ⟨i, by omega, by rw [e, show N1 + (N2 + M) + n - i = N1 + (N2 + M) - i + n by omega]⟩
    · exact ⟨N1 + (N2 + M) - j + n, by omega, by rw [e, show N1 + (N2 + M) + n - (N1 + (N2 + M) - j + n) = j by omega, Int.add_comm]⟩
  · by_cases a : i < N1
    · have := h2 i a
      rw [show N1 + (N2 + M) + n - i = N1 + (N2 + M) - i + n by omega]
      exact this
    · by_cases b : N1 + (N2 + M) + n - i < N2 + M
      · have := h3 _ b
        rw [show N1 + (N2 + M) - (N1 + (N2 + M) + n - i) + n = i by omega] at this
        omega
      · obtain ⟨i', j', e, l, p, q⟩ := conv_move hM hf hg hG (i := i) (j := N1 + (N2 + M) + n - i) (by omega) (by omega)
        have := h3 j' l
        rw [show N1 + (N2 + M) - j' + n = i' by omega] at this
        omega
theorem least_upto {φ : Nat → Int} : ∀ n : Nat, ∃ m, (∃ i, i ≤ n ∧ m = φ i) ∧ ∀ i, i ≤ n → m ≤ φ i
  | 0 => ⟨φ 0, ⟨0, Nat.le_refl _, rfl⟩, fun i hi => by rw [show i = 0 by omega]; exact Int.le_refl _⟩
  | n + 1 => by
    obtain ⟨m, ⟨i, hi, e⟩, hl⟩ := least_upto (φ := φ) n
    by_cases h : m ≤ φ (n + 1)
    · refine ⟨m, ⟨i, by omega, e⟩, fun j hj => ?_⟩
      by_cases z : j = n + 1
      · rw [z]; exact h
      · exact hl j (by omega)
    · refine ⟨φ (n + 1), ⟨n + 1, Nat.le_refl _, rfl⟩, fun j hj => ?_⟩
      by_cases z : j = n + 1
      · rw [z]; exact Int.le_refl _
      · have := hl j (by omega)
        omega
theorem conv_ex (f g : Nat → Int) (n : Nat) : ∃ m, IsConv f g n m := by
  obtain ⟨m, ⟨i, hi, e⟩, hl⟩ := least_upto (φ := fun i => f i + g (n - i)) n
  exact ⟨m, ⟨i, hi, e⟩, hl⟩
end RW
set_option Elab.async false
set_option linter.all false
set_option maxRecDepth 100000
set_option maxHeartbeats 4000000
/-! a family's lowest gains -/
namespace K17
open PySem PySem.Spec PyProof.Rows L2 LamX
theorem fam_le {f g : Nat → Int} {M N L : Nat} {Ga Gb : Int} (hM : 0 < M) (hf : RW.Gains f M Ga N) (hg : RW.Gains g M Gb N) (hG : Ga < Gb) (hL : ∀ n, n < N + M + M → f n - g n ≤ L) {n : Nat} (hn : N + M + L * M ≤ n) : f n ≤ g n := by
  have hm := Nat.mod_lt (n - N) hM
  have hd := Nat.div_add_mod (n - N) M
  have hk : L ≤ (n - N) / M := by
    rw [Nat.le_div_iff_mul_le hM]
    omega
  generalize hj : N + (n - N) % M = j at *
  generalize (n - N) / M = k at *
  have en : n = j + k * M := by
    rw [Nat.mul_comm] at hd
    omega
  have a := hf.many k (n := j) (by omega)
  have b := hg.many k (n := j) (by omega)
  rw [← en] at a b
  have c := hL j (by omega)
  have d : (k : Int) * 1 ≤ k * (Gb - Ga) := Int.mul_le_mul_of_nonneg_left (by omega) (by omega)
  rw [Int.mul_sub] at d
  omega
theorem Fam.gains {fs : List (Nat → Int)} {M N L : Nat} {G1 G2 : Int} {g : Nat → Int} (F : Fam fs M N L G1 G2) (lo : Lowest fs g) : ∃ G, RW.Gains g M G (N + M + L * M) := by
  have key : ∀ Ga Gb : Int, (∀ f ∈ fs, RW.Gains f M Ga N ∨ RW.Gains f M Gb N) → (Ga = Gb ∨ ∀ f ∈ fs, ∀ g ∈ fs, ∀ n : Nat, n < N + M + M → f n - g n ≤ (L : Int)) → Ga ≤ Gb → (∃ f ∈ fs, RW.Gains f M Ga N) → RW.Gains g M Ga (N + M + L * M) := by
    intro Ga Gb gn lk hle ⟨f0, hf0, gf0⟩
    have att : ∀ n, N + M + L * M ≤ n → ∃ f ∈ fs, RW.Gains f M Ga N ∧ g n = f n := by
      intro n hn
      obtain ⟨f, hf, e⟩ := (lo n).1
      rcases gn f hf with z | z
      · exact ⟨f, hf, z, e⟩
      · by_cases q : Ga = Gb
        · rw [← q] at z; exact ⟨f, hf, z, e⟩
        · refine ⟨f0, hf0, gf0, ?_⟩
          have hL := lk.resolve_left q
          have h1 := fam_le F.m0 gf0 z (by omega) (fun n hn => hL f0 hf0 f hf n hn) hn
          have h2 := (lo n).2 f0 hf0
          omega
    intro n hn
    obtain ⟨f, hf, zf, ef⟩ := att n hn
    obtain ⟨f', hf', zf', ef'⟩ := att (n + M) (by omega)
    have a := (lo (n + M)).2 f hf
    have b := (lo n).2 f' hf'
    have c := zf n (by omega)
    have d := zf' n (by omega)
    omega
  by_cases h1 : ∃ f ∈ fs, RW.Gains f M G1 N
  · by_cases h2 : ∃ f ∈ fs, RW.Gains f M G2 N
    · by_cases hle : G1 ≤ G2
      · exact ⟨G1, key G1 G2 F.gn F.lk hle h1⟩
      · exact ⟨G2, key G2 G1 (fun f hf => (F.gn f hf).symm) (F.lk.imp Eq.symm id) (by omega) h2⟩
    · exact ⟨G1, key G1 G1 (fun f hf => (F.gn f hf).imp id fun z => absurd ⟨f, hf, z⟩ h2) (.inl rfl) (Int.le_refl _) h1⟩
  · have h2 : ∃ f ∈ fs, RW.Gains f M G2 N := by
      obtain ⟨f, hf, _⟩ := (lo 0).1
      exact (F.gn f hf).elim (fun z => absurd ⟨f, hf, z⟩ h1) fun z => ⟨f, hf, z⟩
    exact ⟨G2, key G2 G2 (fun f hf => (F.gn f hf).symm.imp id fun z => absurd ⟨f, hf, z⟩ h1) (.inl rfl) (Int.le_refl _) h2⟩
end K17
set_option Elab.async false
set_option linter.all false
set_option maxRecDepth 100000
set_option maxHeartbeats 4000000
namespace K17
open PySem PySem.Spec PyProof.Rows L2 LamX NdefX
section
variable {P : Program} {w : World} {K : PySem.W.Frag} {mg : Str → Option Value} {base : Heap}
theorem sc_least_sum : FnScope ["one", "other", "place", "sums", "first"] ["one", "other", "place"] (defScope (topS 47)) := ⟨rfl, rfl, rfl, by decide +kernel, rfl, by decide +kernel, by decide +kernel⟩
def spLeastSum (K : PySem.W.Frag) : Sp := fun vs H Q _ => ∃ (p q : Addr) (f g : Nat → Int) (n : Nat), vs = [.ref p, .ref q, .int n] ∧ IsRow K H p f ∧ IsRow K H q g ∧ n < 16000000 ∧ ∀ m k u H', Gr K H H' → H' u = some (.tup [.int m, .int k]) → RW.IsConv f g n m → Q (.ref u) H'
theorem ok_least_sum (X : Txt K mg) : Ok P w K mg base CX0 2 "least_sum" ["one", "other", "place"] (spLeastSum K) := by
  refine ok_def0 X 32 rfl sc_least_sum (by decide +kernel) (fun vs H Q E h => ?_) (fun _ _ _ _ _ _ us hl => match us, hl with | [_, _, _], _ => rfl) (fun f cdv A outer s H vs Q E hr h => ?_)
  · obtain ⟨p, q, f, g, n, rfl, _⟩ := h; rfl
  · obtain ⟨p, q, F, G, n, rfl, r1, r2, hn, fin⟩ := h
    refine ⟨_, (pss_cons (ps_setLc (i := 3) (own := [("first", 4)]) (g := (gName 4)) (tt := tYes) rfl sc_least_sum.nd rfl rfl (sw_true rfl rfl rfl (by decide +kernel)) (pi_range1 (by rfl) X.b_range (pa_cons (pe_op op_add (pv 2) pe_int) pa_nil)) (blkOk_by (N := ["one", "other", "place", "sums", "first"]) (sc := defScope (topS 47)) (by decide +kernel)) (fun _ _ _ _ _ => (pg_name (i := 4) sc_least_sum.nd rfl (.inl rfl))) (fun _ _ _ _ _ => pts_nil) (fun _ _ _ _ _ => (pe_op op_add (m1_K X (by decide +kernel) (ok_value X) hr pass0 (pv 0) (pa_cons (pv 4) pa_nil)) (m1_K X (by decide +kernel) (ok_value X) hr pass0 (pv 1) (pa_cons (pe_op op_sub (pv 2) (pv 4)) pa_nil)))))
  (pss_one (ps_ret (pe_tup (pa_cons (pe_callB (min_K (K := K)) (by rfl) X.b_min (by decide +kernel) (pa_cons (pv 3) pa_nil)) (pa_cons (bm_K (K := K) PySem.F.plainAttrs_list PySem.F.slot_list_index PySem.F.type_list_index (index_K (K := K)) (pv 3) (pa_cons (pe_callB (min_K (K := K)) (by rfl) X.b_min (by decide +kernel) (pa_cons (pv 3) pa_nil)) pa_nil)) pa_nil)))))), ?_⟩
    refine ⟨_, rfl, _, _, rfl, rfl, ((n : Int) + 1), rfl, by omega, by omega, fun D hD => ?_⟩
    rw [show ((n : Int) + 1).toNat = n + 1 by omega]
    refine lc_rng (K := K) (F := fun i => V.int (F i + G (n - i))) hD (by omega) (fun i H4 Q4 hi g4 q4 => ?_) (fun H4 g4 h4 => ?_)
    · obtain ⟨t1, dx1, x1, y1, _, _, _, z1, _, _⟩ := (g4.row r1).fields
      obtain ⟨t2, dx2, x2, y2, _, _, _, z2, _, _⟩ := (g4.row r2).fields
      refine ⟨rfl, _, rfl, p, dx1, _, rfl, z1, rfl, _, rfl, p, F, i, ?_, g4.row r1, by omega, ?_⟩
      · show [V.ref p, V.int (0 + (i : Int))] = _
        rw [Int.zero_add]
      refine ⟨_, rfl, q, dx2, _, rfl, z2, rfl, _, rfl, _, rfl, _, _, rfl, rfl, q, G, n - i, ?_, g4.row r2, by omega, _, _, rfl, rfl, q4 _ (Ge.refl _)⟩
      show [V.ref q, V.int ((n : Int) - (0 + (i : Int)))] = _
      rw [show (n : Int) - (0 + (i : Int)) = ((n - i : Nat) : Int) by omega]
    rw [show (List.range (n + 1)).map (fun i => V.int (F i + G (n - i))) = ((List.range (n + 1)).map fun i => F i + G (n - i)).map V.int by rw [List.map_map]; rfl] at h4
    have hin : ∀ m, m ∈ ((List.range (n + 1)).map fun i => F i + G (n - i)) → (∀ y ∈ ((List.range (n + 1)).map fun i => F i + G (n - i)), m ≤ y) → RW.IsConv F G n m := fun m hm hle => by
      obtain ⟨i, hi, e⟩ := List.mem_map.mp hm
      have := List.mem_range.mp hi
      exact ⟨⟨i, by omega, e.symm⟩, fun j hj => hle _ (List.mem_map.mpr ⟨j, List.mem_range.mpr (by omega), rfl⟩)⟩
    have hlen : 0 < ((List.range (n + 1)).map fun i => F i + G (n - i)).length := by simp
    generalize (List.range (n + 1)).map (fun i => F i + G (n - i)) = ns at h4 hin hlen
    refine ⟨_, rfl, D, ns, rfl, .of h4, hlen, fun m hm hle => ?_⟩
    refine ⟨_, rfl, .inl ⟨rfl, _, .of h4⟩, _, rfl, D, ns, rfl, .of h4, hlen, fun m2 hm2 hle2 => ?_⟩
    obtain ⟨j, hj, hl⟩ := RW.least_nat (P := fun j => ns[j]? = some m2) (List.mem_iff_getElem?.mp hm2)
    refine ⟨D, ns.map V.int, .int m2, j, .int m2, rfl, rfl, .of h4, rfl, ?_, ?_, ?_, fun j' z' hj' hz' => ?_, by show 2 ≤ sizeLine; decide, fun u hu => ?_⟩
    · rw [List.all_map]; exact List.all_eq_true.mpr fun _ _ => rfl
    · rw [List.getElem?_map, hj]; rfl
    · show (m2 == m2) = true
      simp
    · rw [List.getElem?_map] at hz'
      cases e : ns[j']? with
      | none => rw [e] at hz'; cases hz'
      | some v =>
        rw [e] at hz'
        cases hz'
        show (v == m2) = false
        have : v ≠ m2 := fun z => hl j' hj' (by rw [e, z])
        simpa using this
    · exact fin m j u _ (g4.trans (Ge.new hu)) upd_same (hin m hm hle)
/-- the bounds under which two rows may be split -/
def SplitOk (f g : Nat → Int) : Prop := ∃ (M N B : Nat) (G1 G2 : Int), 0 < M ∧ RW.Gains f M G1 N ∧ RW.Gains g M G2 N ∧ (∀ n, n < 2 * N + 4 * M → f n ≤ B ∧ - f n ≤ B ∧ g n ≤ B ∧ - g n ≤ B) ∧ 2 * N + M + (M + 4 * B * M + M) ≤ 8000000
theorem SplitOk.symm {f g : Nat → Int} (h : SplitOk f g) : SplitOk g f := by
  obtain ⟨M, N, B, G1, G2, a, b, c, d, e⟩ := h
  exact ⟨M, N, B, G2, G1, a, c, b, fun n hn => let ⟨x, y, z, w⟩ := d n hn; ⟨z, w, x, y⟩, e⟩
theorem sc_split_by : FnScope ["one", "other", "mine", "theirs", "place", "rows", "behind", "values", "first", "last", "number"] ["one", "other"] (defScope (topS 48)) := ⟨rfl, rfl, rfl, by decide +kernel, rfl, by decide +kernel, by decide +kernel⟩
def spSplit (K : PySem.W.Frag) : Sp := fun vs H Q _ => ∃ (p q : Addr) (f g : Nat → Int), vs = [.ref p, .ref q] ∧ Tabs (tbs K) H ∧ IsRow K H p f ∧ IsRow K H q g ∧ SplitOk f g ∧ ∀ r H' c, Gr K H H' → IsRow K H' r c → (∀ n, RW.IsConv f g n (c n)) → Q (.ref r) H'
theorem ok_split_by (X : Txt K mg) (TB : TabB base mg (He.cT K ("least_of_two", none)).1 (He.cT K ("least_of_two", none)).2) : Ok P w K mg base CX0 9 "split_by" ["one", "other"] (spSplit K) := by
  refine ok_def0 X 33 rfl sc_split_by (by decide +kernel) (fun vs H Q E h => ?_) (fun _ _ _ _ _ _ us hl => match us, hl with | [_, _], _ => rfl) (fun f cdv A outer s H vs Q E hr h => ?_)
  · obtain ⟨p, q, f, g, rfl, _⟩ := h; rfl
  · obtain ⟨p, q, F, G, rfl, hT, r1, r2, sok, fin⟩ := h
    have rest : ∃ t, PSs (cxOf CX0 P w K mg base ["one", "other", "mine", "theirs", "place", "rows", "behind", "values", "first", "last", "number"] "split_by" (defScope (topS 48)) f cdv A outer s H E).nox ((defBody (topS 48)).drop 1) t ∧
        ∀ (p' q' : Addr) (F' G' : Nat → Int) (t1 u : RW.Tri) (H' : Hp), Gr K H H' → IsRow K H p' F' → IsRow K H q' G' → RowO K H p' t1 → RowO K H q' u → RW.Canon t1 → RW.Canon u → (∀ n, RW.ev t1 n = F' n) → (∀ n, RW.ev u n = G' n) → (t1.h.length ≤ 8000000 ∧ t1.c.length ≤ 8000000) → (u.h.length ≤ 8000000 ∧ u.c.length ≤ 8000000) →
          SplitOk F' G' → (∀ n m, RW.IsConv F' G' n m → RW.IsConv F G n m) → t1.g * u.c.length ≤ u.g * t1.c.length →
          t { nx := fun _ H' => Q .non H', rt := Q } (L2.start ["one", "other", "mine", "theirs", "place", "rows", "behind", "values", "first", "last", "number"] [.ref p', .ref q']) H' := by
      refine ⟨_, (pss_cons (ps_par (i := 2) (j := 3) (by rfl) sc_split_by.nd rfl rfl (by decide) rfl rfl (pa_cons (pe_callB (len_K (K := K)) (by rfl) X.b_len (by decide +kernel) (pa_cons (fld_K (K := K) (pv 0)) pa_nil)) (pa_cons (pe_op op_add (pe_callB (len_K (K := K)) (by rfl) X.b_len (by decide +kernel) (pa_cons (fld_K (K := K) (pv 1)) pa_nil)) (pe_o (ok_round_of X) hr pass0 (pa_cons (pe_lst (pa_cons (pv 0) (pa_cons (pv 1) pa_nil))) pa_nil))) pa_nil)) (by rfl))
  (pss_cons (ps_set (i := 4) sc_split_by.nd rfl (.inr rfl) (pe_op op_add (pv 2) (pv 3)))
  (pss_cons (ps_setLc (i := 5) (own := [("first", 8)]) (g := (gName 8)) (tt := tYes) rfl sc_split_by.nd rfl rfl (sw_true rfl rfl rfl (by decide +kernel)) (pi_range1 (by rfl) X.b_range (pa_cons (pv 2) pa_nil)) (blkOk_by (N := ["one", "other", "mine", "theirs", "place", "rows", "behind", "values", "first", "last", "number"]) (sc := defScope (topS 48)) (by decide +kernel)) (fun _ _ _ _ _ => (pg_name (i := 8) sc_split_by.nd rfl (.inl rfl))) (fun _ _ _ _ _ => pts_nil) (fun _ _ _ _ _ => (pe_o (ok_raised X) hr pass0 (pa_cons (pe_o (ok_sooner_by X) hr pass0 (pa_cons (pv 1) (pa_cons (pe_op op_sub (pv 4) (pv 8)) pa_nil))) (pa_cons (m1_K X (by decide +kernel) (ok_value X) hr pass0 (pv 0) (pa_cons (pv 8) pa_nil)) pa_nil)))))
  (pss_cons (ps_expr (bm_K (K := K) PySem.F.plainAttrs_list PySem.F.slot_list_extend PySem.F.type_list_extend mt_extend (pv 5) (pa_cons (pe_lc (own := [("last", 9)]) (g := (gName 9)) (tt := tYes) rfl sc_split_by.nd (pi_range1 (by rfl) X.b_range (pa_cons (pv 3) pa_nil)) (blkOk_by (N := ["one", "other", "mine", "theirs", "place", "rows", "behind", "values", "first", "last", "number"]) (sc := defScope (topS 48)) (by decide +kernel)) (fun _ _ _ _ _ => (pg_name (i := 9) sc_split_by.nd rfl (.inl rfl))) (fun _ _ _ _ _ => pts_nil) (fun _ _ _ _ _ => (pe_o (ok_raised X) hr pass0 (pa_cons (pe_o (ok_sooner_by X) hr pass0 (pa_cons (pv 0) (pa_cons (pe_op op_sub (pv 4) (pv 9)) pa_nil))) (pa_cons (m1_K X (by decide +kernel) (ok_value X) hr pass0 (pv 1) (pa_cons (pv 9) pa_nil)) pa_nil))))) pa_nil)))
  (pss_cons (ps_set (i := 6) sc_split_by.nd rfl (.inl rfl) (pe_o (ok_least_among X TB) hr pass0 (pa_cons (pv 5) pa_nil)))
  (pss_cons (ps_setLc (i := 7) (own := [("number", 10)]) (g := (gName 10)) (tt := tYes) rfl sc_split_by.nd rfl rfl (sw_true rfl rfl rfl (by decide +kernel)) (pi_range1 (by rfl) X.b_range (pa_cons (pv 4) pa_nil)) (blkOk_by (N := ["one", "other", "mine", "theirs", "place", "rows", "behind", "values", "first", "last", "number"]) (sc := defScope (topS 48)) (by decide +kernel)) (fun _ _ _ _ _ => (pg_name (i := 10) sc_split_by.nd rfl (.inl rfl))) (fun _ _ _ _ _ => pts_nil) (fun _ _ _ _ _ => (pe_ix (ixT_K (K := K)) (pe_o (ok_least_sum X) hr pass0 (pa_cons (pv 0) (pa_cons (pv 1) (pa_cons (pv 10) pa_nil)))) pe_int (fun _ _ => rfl))))
  (pss_one (ps_ret (row_K X (ok_init X) hr pass0 (pa_cons (pe_op op_cat (pv 7) (pe_callTy (list_K (K := K)) (by rfl) X.b_list (by decide +kernel) (pa_cons (fld_K (K := K) (pv 6)) pa_nil))) (pa_cons (fld_K (K := K) (pv 6)) (pa_cons (fld_K (K := K) (pv 6)) pa_nil)))))))))))), ?_⟩
      intro p' q' F' G' t u H' gr R1 R2 O1 O2 ct cu et eu ⟨zth, ztc⟩ ⟨zuh, zuc⟩ sok' ec hle
      obtain ⟨M, N, B, G1, G2, hM, hG1, hG2, hB, hbd⟩ := sok'
      have kt := hG1.congr fun n => (et n).symm
      have ku := hG2.congr fun n => (eu n).symm
      have ht := ct.head_le hM kt
      have hu' := cu.head_le hM ku
      have dt : t.c.length ∣ M := Nat.dvd_of_mod_eq_zero (ct.dvd ⟨hM, _, _, kt⟩)
      have du : u.c.length ∣ M := Nat.dvd_of_mod_eq_zero (cu.dvd ⟨hM, _, _, ku⟩)
      obtain ⟨many, em⟩ : ∃ many, many = Nat.lcm t.c.length u.c.length := ⟨_, rfl⟩
      have lm : many ≤ M := by rw [em]; exact Nat.le_of_dvd hM (Nat.lcm_dvd dt du)
      have m0 : 0 < many := by rw [em]; exact Nat.lcm_pos ct.ne cu.ne
      have e1 : many / t.c.length * t.c.length = many := Nat.div_mul_cancel (by rw [em]; exact Nat.dvd_lcm_left _ _)
      have e2 : many / u.c.length * u.c.length = many := Nat.div_mul_cancel (by rw [em]; exact Nat.dvd_lcm_right _ _)
      have g1 := ((RW.ev_gains ct.ne).congr et).mul (many / t.c.length)
      have g2 := ((RW.ev_gains cu.ne).congr eu).mul (many / u.c.length)
      rw [e1] at g1
      rw [e2] at g2
      have hle' : ((many / t.c.length : Nat) : Int) * t.g ≤ ((many / u.c.length : Nat) : Int) * u.g := by
        have p : (0 : Int) < (t.c.length : Int) * u.c.length := Int.mul_pos (by have := ct.ne; omega) (by have := cu.ne; omega)
        have x1 : (many : Int) = ((many / t.c.length : Nat) : Int) * t.c.length := by rw [← Int.natCast_mul, e1]
        have x2 : (many : Int) = ((many / u.c.length : Nat) : Int) * u.c.length := by rw [← Int.natCast_mul, e2]
        refine Int.le_of_mul_le_mul_right ?_ p
        have y1 : ((many / t.c.length : Nat) : Int) * t.g * ((t.c.length : Int) * u.c.length) = many * (t.g * u.c.length) := by
          rw [x1]; simp [Int.mul_assoc, Int.mul_comm, Int.mul_left_comm]
        have y2 : ((many / u.c.length : Nat) : Int) * u.g * ((t.c.length : Int) * u.c.length) = many * (u.g * t.c.length) := by
          rw [x2]; simp [Int.mul_assoc, Int.mul_comm, Int.mul_left_comm]
        rw [y1, y2]
        exact Int.mul_le_mul_of_nonneg_left hle (by omega)
      obtain ⟨dx1, ea1, ra1, x1, y1, z1⟩ := gr.rowO O1
      obtain ⟨dx2, ea2, ra2, x2, y2, z2⟩ := gr.rowO O2
      have row1 := gr.row R1
      have row2 := gr.row R2
      refine ⟨_, rfl, p', _, dx1, _, _, rfl, x1, X.cls, X.at1, rfl, ea1, _, rfl, .inr (.of y1), ?_⟩
      rw [List.length_map]
      refine ⟨_, rfl, q', _, dx2, _, _, rfl, x2, X.cls, X.at1, rfl, ea2, _, rfl, .inr (.of y2), ?_⟩
      rw [List.length_map]
      refine ⟨_, rfl, _, rfl, by show 2 ≤ sizeLine; decide, fun l1 n1 => ?_⟩
      have gl : Gr K H' (upd H' l1 (.lst [.ref p', .ref q'])) := Ge.new n1
      refine ⟨l1, t, u, rfl, ⟨p', q', upd_same, gl.rowO ⟨dx1, ea1, ra1, x1, y1, z1⟩, gl.rowO ⟨dx2, ea2, ra2, x2, y2, z2⟩, ⟨ct.ne, ztc⟩, cu.ne, zuc⟩, ?_⟩
      rw [← em]
      generalize upd H' l1 (.lst [.ref p', .ref q']) = H1 at gl ⊢
      refine ⟨_, _, rfl, rfl, _, _, rfl, ?_⟩
      refine ⟨_, rfl, _, rfl, _, _, rfl, rfl, ?_⟩
      generalize hmine : t.h.length = mine at *
      generalize hth : u.h.length = theirs0 at *
      have hplace : ((mine : Int) + ((theirs0 : Int) + (many : Int))) = ((mine + (theirs0 + many) : Nat) : Int) := by omega
      obtain ⟨place, ep⟩ : ∃ place, place = mine + (theirs0 + many) := ⟨_, rfl⟩
      rw [← ep] at hplace
      have pl : place ≤ 2 * N + M := by omega
      refine ⟨_, rfl, mine, rfl, by omega, by omega, fun D1 hD1 => ?_⟩
      rw [Int.toNat_natCast]
      refine lcr_rng (K := K) (fun i n => G' (place - i + n) + F' i) hD1 (by omega) (fun i H4 Q4 hi g4 q4 => ?_) (fun H4 rs1 g4 R4 er1 => ?_)
      · obtain ⟨_, dxa, _, _, _, _, _, za, _, _⟩ := ((gl.trans g4).row row1).fields
        refine ⟨rfl, _, rfl, _, rfl, _, rfl, _, _, rfl, rfl, q', G', place - i, ?_, (gl.trans g4).row row2, by omega, fun r5 H5 g5 r5' => ?_⟩
        · show [V.ref q', V.int (((mine : Int) + ((theirs0 : Int) + (many : Int))) - (0 + (i : Int)))] = _
          rw [show ((mine : Int) + ((theirs0 : Int) + (many : Int))) - (0 + (i : Int)) = ((place - i : Nat) : Int) by omega]
        · refine ⟨_, rfl, p', dxa, _, rfl, g5.at za, rfl, _, rfl, p', F', i, ?_, ((gl.trans g4).trans g5).row row1, by omega, ?_⟩
          · show [V.ref p', V.int (0 + (i : Int))] = _
            rw [Int.zero_add]
          · exact ⟨r5, _, F' i, rfl, r5', fun r6 H6 g6 r6' => q4 r6 H6 (g5.trans g6) r6'⟩
      have gr4 := gl.trans g4
      refine ⟨_, rfl, .inl ⟨rfl, _, .of R4.1⟩, _, rfl, (theirs0 : Int) + many, rfl, by omega, by omega, fun D2 hD2 => ?_⟩
      rw [show ((theirs0 : Int) + many).toNat = theirs0 + many by omega]
      refine lcr_rng (K := K) (fun j n => F' (place - j + n) + G' j) hD2 (by omega) (fun i H5 Q5 hi g5 q5 => ?_) (fun H5 rs2 g5 R5 er2 => ?_)
      · obtain ⟨_, dxa, _, _, _, _, _, za, _, _⟩ := ((gr4.trans g5).row row2).fields
        refine ⟨rfl, _, rfl, _, rfl, _, rfl, _, _, rfl, rfl, p', F', place - i, ?_, (gr4.trans g5).row row1, by omega, fun r6 H6 g6 r6' => ?_⟩
        · show [V.ref p', V.int (((mine : Int) + ((theirs0 : Int) + (many : Int))) - (0 + (i : Int)))] = _
          rw [show ((mine : Int) + ((theirs0 : Int) + (many : Int))) - (0 + (i : Int)) = ((place - i : Nat) : Int) by omega]
        · refine ⟨_, rfl, q', dxa, _, rfl, g6.at za, rfl, _, rfl, q', G', i, ?_, ((gr4.trans g5).trans g6).row row2, by omega, ?_⟩
          · show [V.ref q', V.int (0 + (i : Int))] = _
            rw [Int.zero_add]
          · exact ⟨r6, _, G' i, rfl, r6', fun r7 H7 g7 r7' => q5 r7 H7 (g6.trans g7) r7'⟩
      have R4' := R4.gr g5
      have len1 : rs1.length = mine := by have := congrArg List.length er1; simpa using this
      have len2 : rs2.length = theirs0 + many := by have := congrArg List.length er2; simpa using this
      refine ⟨D1, D2, _, _, rfl, rfl, R4'.1, R5.1, by simp only [List.length_map]; exact sized (by omega), ?_⟩
      rw [← List.map_append]
      have gr6 : Gr K H1 (upd H5 D1 (.lst ((rs1 ++ rs2).map fun x => V.ref x.1))) := (g4.trans g5).put hD1 R4'.1 (by intro _ z; cases z) (by intro _ z; cases z)
      have R6 : Rows K (upd H5 D1 (.lst ((rs1 ++ rs2).map fun x => V.ref x.1))) D1 (rs1 ++ rs2) := ⟨upd_same, fun x hx => by
        refine row_upd ?_ R4'.1 (by intro _ _ _ z; cases z) (by intro _ z; cases z)
        rcases List.mem_append.mp hx with hx | hx
        · exact R4'.2 x hx
        · exact R5.2 x hx⟩
      generalize upd H5 D1 (.lst ((rs1 ++ rs2).map fun x => V.ref x.1)) = H6 at gr6 R6 ⊢
      have grA := gl.trans gr6
      have efs : (rs1 ++ rs2).map (·.2) = (List.range mine).map (fun i n => G' (place - i + n) + F' i) ++ (List.range (theirs0 + many)).map (fun j n => F' (place - j + n) + G' j) := by rw [List.map_append, er1, er2]
      have elem : ∀ f ∈ (rs1 ++ rs2).map (·.2), (∃ i, i < mine ∧ f = fun n => G' (place - i + n) + F' i) ∨ ∃ j, j < theirs0 + many ∧ f = fun n => F' (place - j + n) + G' j := fun f hf => by
        rw [efs] at hf
        rcases List.mem_append.mp hf with hf | hf
        · obtain ⟨i, hi, e⟩ := List.mem_map.mp hf
          exact .inl ⟨i, List.mem_range.mp hi, e.symm⟩
        · obtain ⟨i, hi, e⟩ := List.mem_map.mp hf
          exact .inr ⟨i, List.mem_range.mp hi, e.symm⟩
      have bnd : ∀ f ∈ (rs1 ++ rs2).map (·.2), ∀ n : Nat, n < many + many → f n ≤ ((2 * B : Nat) : Int) ∧ - f n ≤ ((2 * B : Nat) : Int) := fun f hf n hn => by
        rcases elem f hf with ⟨i, hi, rfl⟩ | ⟨i, hi, rfl⟩
        · have a := hB (place - i + n) (by omega)
          have b := hB i (by omega)
          show G' (place - i + n) + F' i ≤ _ ∧ -(G' (place - i + n) + F' i) ≤ _
          omega
        · have a := hB (place - i + n) (by omega)
          have b := hB i (by omega)
          show F' (place - i + n) + G' i ≤ _ ∧ -(F' (place - i + n) + G' i) ≤ _
          omega
      have hBM : 4 * B * many ≤ 4 * B * M := Nat.mul_le_mul_left _ lm
      have fam : Fam ((rs1 ++ rs2).map (·.2)) many 0 (4 * B) (((many / u.c.length : Nat) : Int) * u.g) (((many / t.c.length : Nat) : Int) * t.g) := by
        refine ⟨m0, by omega, fun f hf => ?_, .inr fun f hf g hg n hn => ?_⟩
        · rcases elem f hf with ⟨i, hi, rfl⟩ | ⟨i, hi, rfl⟩
          · exact .inl (((g2.shift (place - i)).mono (M := 0) (by omega)).add _)
          · exact .inr (((g1.shift (place - i)).mono (M := 0) (by omega)).add _)
        · have a := bnd f hf n (by omega)
          have b := bnd g hg n (by omega)
          omega
      refine ⟨_, rfl, D1, rs1 ++ rs2, many, 0, 4 * B, _, _, rfl, (gr.trans grA).tab hT, R6, ?_, fam, fun r7 H7 b g7 r7' lo => ?_⟩
      · intro z
        have := congrArg List.length z
        rw [List.length_append, len1, len2, List.length_nil] at this
        omega
      obtain ⟨Gb, gb⟩ := fam.gains lo
      obtain ⟨tb, dxb, eb, rb, cb, etb, ⟨zbh, zbc⟩, xb, yb, zb⟩ := r7'.fields
      have hbh := cb.head_le m0 (gb.congr fun n => (etb n).symm)
      have gr7 := grA.trans g7
      obtain ⟨cf, hcf⟩ : ∃ cf : Nat → Int, ∀ n, RW.IsConv F' G' n (cf n) := ⟨fun n => Classical.choose (RW.conv_ex F' G' n), fun n => Classical.choose_spec (RW.conv_ex F' G' n)⟩
      refine ⟨_, rfl, (mine : Int) + ((theirs0 : Int) + many), rfl, by omega, by omega, fun D8 hD8 => ?_⟩
      rw [show ((mine : Int) + ((theirs0 : Int) + many)).toNat = place by omega]
      refine lc_rng (K := K) (F := fun i => V.int (cf i)) hD8 (by omega) (fun i H8 Q8 hi g8 q8 => ?_) (fun H8 g8 h8 => ?_)
      · refine ⟨rfl, _, rfl, _, rfl, _, rfl, p', q', F', G', i, ?_, (gr7.trans g8).row row1, (gr7.trans g8).row row2, by omega, fun m k v H9 g9 hv hc => ?_⟩
        · show [V.ref p', V.ref q', V.int (0 + (i : Int))] = _
          rw [Int.zero_add]
        · refine ⟨v, _, _, _, rfl, rfl, .of hv, atI_eq (j := 0) rfl rfl, ?_⟩
          rw [hc.uniq (hcf i)]
          exact q8 H9 g9
      have gr8 := gr7.trans g8
      refine ⟨_, rfl, _, rfl, r7, _, dxb, _, _, rfl, g8.at xb, X.cls, X.at1, rfl, eb, _, rfl, .inr (.of (g8.tup yb)), fun l3 n3 => ?_⟩
      have h8' : H8 D8 = some (.lst (((List.range place).map cf).map V.int)) := by rw [h8, List.map_map]; rfl
      refine ⟨D8, l3, _, _, rfl, rfl, (Ge.new (T := tbs K) n3).lst h8', upd_same, by simp only [List.length_map, List.length_range]; exact sized (by omega), fun l4 n4 => ?_⟩
      rw [← List.map_append]
      have g10 : Gr K H8 (upd (upd H8 l3 (.lst (tb.h.map V.int))) l4 (.lst (((List.range place).map cf ++ tb.h).map V.int))) := (Ge.new n3).trans (Ge.new n4)
      refine ⟨_, rfl, r7, _, dxb, _, _, rfl, g10.at (g8.at xb), X.cls, X.at2, rfl, ?_⟩
      refine ⟨_, rfl, r7, _, dxb, _, _, rfl, g10.at (g8.at xb), X.cls, X.at3, rfl, fun y dy ny nd ne => ?_⟩
      refine mkRow (.inl upd_same) (.inr (g10.tup (g8.tup zb))) cb.ne zbc (by simp; omega) (fun p H' g11 r11 => fin p H' cf ((gr.trans (gr8.trans g10)).trans g11) (r11.congr fun n => ?_) (fun n => ec n _ (hcf n))) y dy ny nd ne
      rw [RW.ev_cat]
      simp only [List.length_map, List.length_range]
      by_cases hn : n < place
      · rw [if_pos hn, RW.getD_lt (by simpa using hn)]
        simp
      · rw [if_neg hn, etb]
        obtain ⟨k, rfl⟩ : ∃ k, n = place + k := ⟨n - place, by omega⟩
        rw [show place + k - place = k by omega]
        refine RW.IsConv.uniq ?_ (hcf _)
        rw [ep]
        refine RW.conv_far m0 g1 g2 hle' ?_ (fun i hi => ?_) (fun j hj => ?_)
        · obtain ⟨f, hf, e⟩ := (lo k).1
          rcases elem f hf with ⟨i, hi, rfl⟩ | ⟨i, hi, rfl⟩
          · exact .inl ⟨i, hi, by rw [e, ← ep, Int.add_comm]⟩
          · exact .inr ⟨i, hi, by rw [e, ← ep, Int.add_comm]⟩
        · have := (lo k).2 (fun n => G' (place - i + n) + F' i) (by rw [efs]; exact List.mem_append_left _ (List.mem_map.mpr ⟨i, List.mem_range.mpr hi, rfl⟩))
          rw [← ep, Int.add_comm]
          exact this
        · have := (lo k).2 (fun n => F' (place - j + n) + G' j) (by rw [efs]; exact List.mem_append_right _ (List.mem_map.mpr ⟨j, List.mem_range.mpr hj, rfl⟩))
          rw [← ep, Int.add_comm]
          exact this
    obtain ⟨tr, htr, hrest⟩ := rest
    obtain ⟨t, dx1, x1, y1, ct, et, zt, z1, he1, hr1⟩ := r1.fields
    obtain ⟨u, dx2, x2, y2, cu, eu, zu, z2, he2, hr2⟩ := r2.fields
    have O1 : RowO K H p t := ⟨dx1, x1, y1, z1, he1, hr1⟩
    have O2 : RowO K H q u := ⟨dx2, x2, y2, z2, he2, hr2⟩
    refine ⟨_, (pss_cons (ps_if (pt_val (pe_o (ok_is_faster X) hr pass0 (pa_cons (pv 0) (pa_cons (pv 1) pa_nil))))
  (pss_one (ps_asg (pe_tup (pa_cons (pv 1) (pa_cons (pv 0) pa_nil))) (tup_K (K := K) (pgs_cons (pg_name (i := 0) sc_split_by.nd rfl (.inr rfl)) (pgs_cons (pg_name (i := 1) sc_split_by.nd rfl (.inr rfl)) pgs_nil)))))
  pss_nil)
  htr), ?_⟩
    refine ⟨_, rfl, _, rfl, p, q, t, u, rfl, O1, O2, zt.2, zu.2, _, rfl, iteD (fun e => ?_) (fun e => ?_)⟩
    · refine ⟨_, rfl, _, rfl, by show 2 ≤ sizeLine; decide, fun tp ntp => ?_⟩
      refine ⟨tp, _, rfl, .of upd_same, rfl, _, _, rfl, _, _, rfl, rfl, ?_⟩
      exact hrest q p G F u t _ (Ge.new ntp) r2 r1 O2 O1 cu ct eu et zu zt sok.symm (fun n m h => h.comm) (by omega)
    · exact hrest p q F G t u H (Ge.refl _) r1 r2 O1 O2 ct cu et eu zt zu sok (fun n m h => h) (by omega)
end
end K17
set_option Elab.async false
set_option linter.all false
set_option maxRecDepth 100000
set_option maxHeartbeats 4000000
namespace K17
open PySem PySem.Spec PyProof.Rows L2 LamX NdefX
section
variable {P : Program} {w : World} {K : PySem.W.Frag} {mg : Str → Option Value} {base : Heap}
theorem SplitOk.neg {f g : Nat → Int} (h : SplitOk f g) : SplitOk (negF f) (negF g) := by
  obtain ⟨M, N, B, G1, G2, a, b, c, d, e⟩ := h
  refine ⟨M, N, B, -G1, -G2, a, b.neg, c.neg, fun n hn => ?_, e⟩
  have := d n hn
  unfold negF
  omega
theorem sc_split_least : FnScope ["one", "other"] ["one", "other"] (defScope (topS 49)) := ⟨rfl, rfl, rfl, by decide +kernel, rfl, by decide +kernel, by decide +kernel⟩
theorem ok_split_least (X : Txt K mg) (TB : TabB base mg (He.cT K ("least_of_two", none)).1 (He.cT K ("least_of_two", none)).2) : Ok P w K mg base CX0 10 "split_least" ["one", "other"] (spSplit K) := by
  refine ok_def0 X 34 rfl sc_split_least (by decide +kernel) (fun vs H Q E h => ?_) (fun _ _ _ _ _ _ us hl => match us, hl with | [_, _], _ => rfl) (fun f cdv A outer s H vs Q E hr h => ?_)
  · obtain ⟨p, q, f, g, rfl, _⟩ := h; rfl
  · obtain ⟨p, q, F, G, rfl, hT, r1, r2, sok, fin⟩ := h
    refine ⟨_, (pss_cons (ps_expr (pe_o (ok_check_two X) hr pass0 (pa_cons (pv 0) (pa_cons (pv 1) pa_nil))))
  (pss_one (ps_ret (pe_o (ok_split_by X TB) hr pass0 (pa_cons (pv 0) (pa_cons (pv 1) pa_nil)))))), ?_⟩
    exact ⟨_, rfl, _, rfl, p, q, F, G, rfl, r1, r2, _, rfl, _, rfl, p, q, F, G, rfl, hT, r1, r2, sok, fin⟩
theorem sc_split_greatest : FnScope ["one", "other"] ["one", "other"] (defScope (topS 50)) := ⟨rfl, rfl, rfl, by decide +kernel, rfl, by decide +kernel, by decide +kernel⟩
def spSplitG (K : PySem.W.Frag) : Sp := fun vs H Q _ => ∃ (p q : Addr) (f g : Nat → Int), vs = [.ref p, .ref q] ∧ Tabs (tbs K) H ∧ IsRow K H p f ∧ IsRow K H q g ∧ SplitOk f g ∧ ∀ r H' c, Gr K H H' → IsRow K H' r (negF c) → (∀ n, RW.IsConv (negF f) (negF g) n (c n)) → Q (.ref r) H'
theorem ok_split_greatest (X : Txt K mg) (TB : TabB base mg (He.cT K ("least_of_two", none)).1 (He.cT K ("least_of_two", none)).2) : Ok P w K mg base CX0 10 "split_greatest" ["one", "other"] (spSplitG K) := by
  refine ok_def0 X 35 rfl sc_split_greatest (by decide +kernel) (fun vs H Q E h => ?_) (fun _ _ _ _ _ _ us hl => match us, hl with | [_, _], _ => rfl) (fun f cdv A outer s H vs Q E hr h => ?_)
  · obtain ⟨p, q, f, g, rfl, _⟩ := h; rfl
  · obtain ⟨p, q, F, G, rfl, hT, r1, r2, sok, fin⟩ := h
    refine ⟨_, (pss_cons (ps_expr (pe_o (ok_check_two X) hr pass0 (pa_cons (pv 0) (pa_cons (pv 1) pa_nil))))
  (pss_one (ps_ret (pe_o (ok_turned_about X) hr pass0 (pa_cons (pe_o (ok_split_by X TB) hr pass0 (pa_cons (pe_o (ok_turned_about X) hr pass0 (pa_cons (pv 0) pa_nil)) (pa_cons (pe_o (ok_turned_about X) hr pass0 (pa_cons (pv 1) pa_nil)) pa_nil))) pa_nil))))), ?_⟩
    refine ⟨_, rfl, _, rfl, p, q, F, G, rfl, r1, r2, ?_⟩
    refine ⟨_, rfl, p, F, rfl, r1, fun p1 H1 g1 r1' => ?_⟩
    refine ⟨_, rfl, q, G, rfl, g1.row r2, fun q1 H2 g2 r2' => ?_⟩
    refine ⟨p1, q1, negF F, negF G, rfl, (g1.trans g2).tab hT, g2.row r1', r2', sok.neg, fun r H3 c g3 r3 hc => ?_⟩
    exact ⟨r, c, rfl, r3, fun r4 H4 g4 r4' => fin r4 H4 c (((g1.trans g2).trans g3).trans g4) r4' hc⟩
/-! ### leads -/
def PairOk (f g : Nat → Int) : Prop := ∃ (M N : Nat) (G1 G2 : Int), 0 < M ∧ RW.Gains f M G1 N ∧ RW.Gains g M G2 N ∧ N + 2 * M ≤ 8000000
def Faster (f g : Nat → Int) : Prop := ∃ (M N : Nat) (G1 G2 : Int), 0 < M ∧ RW.Gains f M G1 N ∧ RW.Gains g M G2 N ∧ G2 < G1
def NotFaster (f g : Nat → Int) : Prop := ∃ (M N : Nat) (G1 G2 : Int), 0 < M ∧ RW.Gains f M G1 N ∧ RW.Gains g M G2 N ∧ G1 ≤ G2
def IsSup (f g : Nat → Int) (m : Int) : Prop := (∃ n, m = f n - g n) ∧ ∀ n, f n - g n ≤ m
structure PairF (f g : Nat → Int) (t u : RW.Tri) (many : Nat) (A B : Int) : Prop where
  m0 : 0 < many
  bd : max t.h.length u.h.length + 2 * many ≤ 8000000
  g1 : RW.Gains f many A (max t.h.length u.h.length)
  g2 : RW.Gains g many B (max t.h.length u.h.length)
  fs : u.g * t.c.length < t.g * u.c.length ↔ B < A
theorem pair_facts {f g : Nat → Int} {t u : RW.Tri} (h : PairOk f g) (ct : RW.Canon t) (cu : RW.Canon u) (et : ∀ n, RW.ev t n = f n) (eu : ∀ n, RW.ev u n = g n) : ∃ A B, PairF f g t u (Nat.lcm t.c.length u.c.length) A B := by
  obtain ⟨M, N, G1, G2, hM, hG1, hG2, hbd⟩ := h
  have kt := hG1.congr fun n => (et n).symm
  have ku := hG2.congr fun n => (eu n).symm
  have ht := ct.head_le hM kt
  have hu' := cu.head_le hM ku
  have dt : t.c.length ∣ M := Nat.dvd_of_mod_eq_zero (ct.dvd ⟨hM, _, _, kt⟩)
  have du : u.c.length ∣ M := Nat.dvd_of_mod_eq_zero (cu.dvd ⟨hM, _, _, ku⟩)
  have lm : Nat.lcm t.c.length u.c.length ≤ M := Nat.le_of_dvd hM (Nat.lcm_dvd dt du)
  have m0 : 0 < Nat.lcm t.c.length u.c.length := Nat.lcm_pos ct.ne cu.ne
  have e1 := Nat.div_mul_cancel (Nat.dvd_lcm_left t.c.length u.c.length)
  have e2 := Nat.div_mul_cancel (Nat.dvd_lcm_right t.c.length u.c.length)
  have g1 := ((RW.ev_gains ct.ne).congr et).mul (Nat.lcm t.c.length u.c.length / t.c.length)
  have g2 := ((RW.ev_gains cu.ne).congr eu).mul (Nat.lcm t.c.length u.c.length / u.c.length)
  rw [e1] at g1
  rw [e2] at g2
  generalize Nat.lcm t.c.length u.c.length = many at *
  refine ⟨_, _, m0, by omega, g1.mono (by omega), g2.mono (by omega), ?_⟩
  have p : (0 : Int) < (t.c.length : Int) * u.c.length := Int.mul_pos (by have := ct.ne; omega) (by have := cu.ne; omega)
  have x1 : (many : Int) = ((many / t.c.length : Nat) : Int) * t.c.length := by rw [← Int.natCast_mul, e1]
  have x2 : (many : Int) = ((many / u.c.length : Nat) : Int) * u.c.length := by rw [← Int.natCast_mul, e2]
  have y1 : ((many / t.c.length : Nat) : Int) * t.g * ((t.c.length : Int) * u.c.length) = many * (t.g * u.c.length) := by
    rw [x1]; simp [Int.mul_assoc, Int.mul_comm, Int.mul_left_comm]
  have y2 : ((many / u.c.length : Nat) : Int) * u.g * ((t.c.length : Int) * u.c.length) = many * (u.g * t.c.length) := by
    rw [x2]; simp [Int.mul_assoc, Int.mul_comm, Int.mul_left_comm]
  constructor
  · intro h
    have q : (many : Int) * (u.g * t.c.length) < many * (t.g * u.c.length) := Int.mul_lt_mul_of_pos_left h (by omega)
    rw [← y1, ← y2] at q
    exact Int.lt_of_mul_lt_mul_right q (by omega)
  · intro h
    have q := Int.mul_lt_mul_of_pos_right h p
    rw [y1, y2] at q
    exact Int.lt_of_mul_lt_mul_left q (by omega)
theorem faster_uniq {f g : Nat → Int} {M N : Nat} {G1 G2 : Int} (hM : 0 < M) (h1 : RW.Gains f M G1 N) (h2 : RW.Gains g M G2 N) (h : Faster f g) : G2 < G1 := by
  obtain ⟨M', N', A, B, hM', a, b, c⟩ := h
  have x := a.cross h1
  have y := b.cross h2
  have : (M : Int) * B < M * A := Int.mul_lt_mul_of_pos_left c (by omega)
  rw [x, y] at this
  exact Int.lt_of_mul_lt_mul_left this (by omega)
theorem notFaster_uniq {f g : Nat → Int} {M N : Nat} {G1 G2 : Int} (hM : 0 < M) (h1 : RW.Gains f M G1 N) (h2 : RW.Gains g M G2 N) (h : NotFaster f g) : G1 ≤ G2 := by
  obtain ⟨M', N', A, B, hM', a, b, c⟩ := h
  have x := a.cross h1
  have y := b.cross h2
  have : (M : Int) * A ≤ M * B := Int.mul_le_mul_of_nonneg_left c (by omega)
  rw [x, y] at this
  exact Int.le_of_mul_le_mul_left this (by omega)
theorem sup_bounded {f g : Nat → Int} {M N : Nat} {G1 G2 : Int} (hM : 0 < M) (h1 : RW.Gains f M G1 N) (h2 : RW.Gains g M G2 N) (hle : G1 ≤ G2) {m : Int} (hm : ∀ n, n < N + M → f n - g n ≤ m) (n : Nat) : f n - g n ≤ m := by
  induction n using Nat.strongRecOn with
  | _ n ih =>
    by_cases z : n < N + M
    · exact hm n z
    · have a := h1 (n - M) (by omega)
      have b := h2 (n - M) (by omega)
      rw [show n - M + M = n by omega] at a b
      have := ih (n - M) (by omega)
      omega
theorem sc_greatest_lead : FnScope ["one", "other", "place"] ["one", "other"] (defScope (topS 52)) := ⟨rfl, rfl, rfl, by decide +kernel, rfl, by decide +kernel, by decide +kernel⟩
def spLead (K : PySem.W.Frag) : Sp := fun vs H Q _ => ∃ (p q : Addr) (f g : Nat → Int), vs = [.ref p, .ref q] ∧ IsRow K H p f ∧ IsRow K H q g ∧ PairOk f g ∧ (Faster f g → ∀ H', Gr K H H' → Q .non H') ∧ (NotFaster f g → ∀ H' m, Gr K H H' → IsSup f g m → Q (.int m) H')
theorem ok_greatest_lead (X : Txt K mg) : Ok P w K mg base CX0 4 "greatest_lead" ["one", "other"] (spLead K) := by
  refine ok_def0 X 37 rfl sc_greatest_lead (by decide +kernel) (fun vs H Q E h => ?_) (fun _ _ _ _ _ _ us hl => match us, hl with | [_, _], _ => rfl) (fun f cdv A outer s H vs Q E hr h => ?_)
  · obtain ⟨p, q, f, g, rfl, _⟩ := h; rfl
  · obtain ⟨p, q, F, G, rfl, r1, r2, pok, fin1, fin2⟩ := h
    obtain ⟨t, dx1, x1, y1, ct, et, zt, z1, he1, hr1⟩ := r1.fields
    obtain ⟨u, dx2, x2, y2, cu, eu, zu, z2, he2, hr2⟩ := r2.fields
    have O1 : RowO K H p t := ⟨dx1, x1, y1, z1, he1, hr1⟩
    have O2 : RowO K H q u := ⟨dx2, x2, y2, z2, he2, hr2⟩
    obtain ⟨Aa, Bb, pf⟩ := pair_facts pok ct cu et eu
    refine ⟨_, (pss_cons (ps_if (pt_val (pe_o (ok_is_faster X) hr pass0 (pa_cons (pv 0) (pa_cons (pv 1) pa_nil))))
  (pss_one (ps_ret pe_non))
  pss_nil)
  (pss_one (ps_ret (pe_callB (max_K (K := K)) (by rfl) X.b_max (by decide +kernel) (pa_cons (pe_lc (own := [("place", 2)]) (g := (gName 2)) (tt := tYes) rfl sc_greatest_lead.nd (pi_range1 (by rfl) X.b_range (pa_cons (pe_o (ok_leads X) hr pass0 (pa_cons (pv 0) (pa_cons (pv 1) pa_nil))) pa_nil)) (blkOk_by (N := ["one", "other", "place"]) (sc := defScope (topS 52)) (by decide +kernel)) (fun _ _ _ _ _ => (pg_name (i := 2) sc_greatest_lead.nd rfl (.inl rfl))) (fun _ _ _ _ _ => pts_nil) (fun _ _ _ _ _ => (pe_op op_sub (m1_K X (by decide +kernel) (ok_value X) hr pass0 (pv 0) (pa_cons (pv 2) pa_nil)) (m1_K X (by decide +kernel) (ok_value X) hr pass0 (pv 1) (pa_cons (pv 2) pa_nil))))) pa_nil))))), ?_⟩
    refine ⟨_, rfl, _, rfl, p, q, t, u, rfl, O1, O2, zt.2, zu.2, _, rfl, iteD (fun e => ?_) (fun e => ?_)⟩
    · exact fin1 ⟨_, _, _, _, pf.m0, pf.g1, pf.g2, pf.fs.mp e⟩ H (Ge.refl _)
    · have hle : Aa ≤ Bb := by
        have : ¬ Bb < Aa := fun z => e (pf.fs.mpr z)
        omega
      refine ⟨_, rfl, _, rfl, p, q, t, u, rfl, O1, O2, ⟨ct.ne, zt.2⟩, ⟨cu.ne, zu.2⟩, fun H1 g1 => ?_⟩
      have bd := pf.bd
      generalize hmany : Nat.lcm t.c.length u.c.length = many at pf bd ⊢
      generalize hplace : max t.h.length u.h.length = place at bd ⊢
      have ga : RW.Gains F many Aa place := by rw [← hplace]; exact pf.g1
      have gb : RW.Gains G many Bb place := by rw [← hplace]; exact pf.g2
      refine ⟨_, rfl, by omega, by omega, fun D hD => ?_⟩
      rw [Int.toNat_natCast]
      refine lc_rng (K := K) (F := fun i => V.int (F i - G i)) hD (by omega) (fun i H4 Q4 hi g4 q4 => ?_) (fun H4 g4 h4 => ?_)
      · have w1 := (g1.trans g4).row r1
        have w2 := (g1.trans g4).row r2
        obtain ⟨_, dxa, _, _, _, _, _, za, _, _⟩ := w1.fields
        obtain ⟨_, dxb, _, _, _, _, _, zb, _, _⟩ := w2.fields
        refine ⟨rfl, _, rfl, p, dxa, _, rfl, za, rfl, _, rfl, p, F, i, ?_, w1, by omega, ?_⟩
        · show [V.ref p, V.int (0 + (i : Int))] = _
          rw [Int.zero_add]
        refine ⟨_, rfl, q, dxb, _, rfl, zb, rfl, _, rfl, q, G, i, ?_, w2, by omega, _, _, rfl, rfl, q4 _ (Ge.refl _)⟩
        show [V.ref q, V.int (0 + (i : Int))] = _
        rw [Int.zero_add]
      · rw [show (List.range (place + many)).map (fun i => V.int (F i - G i)) = ((List.range (place + many)).map fun i => F i - G i).map V.int by rw [List.map_map]; rfl] at h4
        refine ⟨D, _, rfl, .of h4, by have := pf.m0; simp; omega, fun m hm hle2 => ?_⟩
        obtain ⟨i, hi, e⟩ := List.mem_map.mp hm
        exact fin2 ⟨_, _, _, _, pf.m0, ga, gb, hle⟩ H4 m (g1.trans g4) ⟨⟨i, e.symm⟩, sup_bounded pf.m0 (ga) (gb) hle fun n hn => hle2 _ (List.mem_map.mpr ⟨n, List.mem_range.mpr (by omega), rfl⟩)⟩
end
end K17
set_option linter.all false
/-! Rows' mathematics, D: when. -/
namespace RW
def Mono (f : Nat → Int) : Prop := ∀ n, f n ≤ f (n + 1)
theorem Mono.le {f : Nat → Int} (m : Mono f) {i j : Nat} (h : i ≤ j) : f i ≤ f j := by
  induction j with
  | zero => rw [show i = 0 by omega]; exact Int.le_refl _
  | succ j ih =>
    by_cases z : i = j + 1
    · rw [z]; exact Int.le_refl _
    · exact Int.le_trans (ih (by omega)) (m j)
/-- w c: the first place at which f is c or more -/
def IsW (f : Nat → Int) (w : Nat → Nat) : Prop := ∀ c : Nat, (c : Int) ≤ f (w c) ∧ ∀ n, n < w c → f n < c
theorem IsW.uniq {f : Nat → Int} {w v : Nat → Nat} (h : IsW f w) (k : IsW f v) (c : Nat) : w c = v c := by
  obtain ⟨a, b⟩ := h c
  obtain ⟨a', b'⟩ := k c
  rcases Nat.lt_trichotomy (w c) (v c) with z | z | z
  · have := b' _ z; omega
  · exact z
  · have := b _ z; omega
theorem grows {f : Nat → Int} {M N : Nat} {G : Int} (h : Gains f M G N) (hG : 0 < G) (c : Int) : ∃ n, c ≤ f n := by
  refine ⟨N + (c - f N).toNat * M, ?_⟩
  rw [h.many (c - f N).toNat (Nat.le_refl N)]
  have : ((c - f N).toNat : Int) * 1 ≤ ((c - f N).toNat : Int) * G := Int.mul_le_mul_of_nonneg_left (by omega) (by omega)
  omega
theorem w_ex {f : Nat → Int} {M N : Nat} {G : Int} (h : Gains f M G N) (hG : 0 < G) : ∃ w, IsW f w := by
  have : ∀ c : Nat, ∃ n, (c : Int) ≤ f n ∧ ∀ m, m < n → f m < c := fun c => by
    obtain ⟨n, a, b⟩ := least_nat (P := fun n => (c : Int) ≤ f n) (grows h hG c)
    exact ⟨n, a, fun m hm => by have := b m hm; omega⟩
  exact ⟨fun c => Classical.choose (this c), fun c => Classical.choose_spec (this c)⟩
theorem IsW.step {f : Nat → Int} {w : Nat → Nat} (h : IsW f w) (m : Mono f) (c : Nat) : w c ≤ w (c + 1) := by
  apply Classical.byContradiction
  intro z
  have a := (h c).2 (w (c + 1)) (by omega)
  have b := (h (c + 1)).1
  omega
theorem IsW.le {f : Nat → Int} {w : Nat → Nat} (h : IsW f w) {c n : Nat} (hn : (c : Int) ≤ f n) : w c ≤ n := by
  apply Classical.byContradiction
  intro z
  have := (h c).2 n (by omega)
  omega
theorem IsW.gains {f : Nat → Int} {w : Nat → Nat} {M N : Nat} {g : Nat} (h : IsW f w) (m : Mono f) (hg : Gains f M g N) {C : Nat} (hC : f N < C) : Gains (fun c => (w c : Int)) g M C := fun c hc => by
  obtain ⟨a, b⟩ := h c
  have wN : N < w c := by
    apply Classical.byContradiction
    intro z
    have := m.le (i := w c) (j := N) (by omega)
    omega
  have e : w (c + g) = w c + M := by
    have e1 : IsW f w := h
    obtain ⟨a', b'⟩ := h (c + g)
    have up : ((c + g : Nat) : Int) ≤ f (w c + M) := by
      have := hg (w c) (by omega)
      omega
    have le := h.le up
    apply Nat.le_antisymm le
    apply Classical.byContradiction
    intro z
    have low : f (w (c + g)) < ((c + g : Nat) : Int) := by
      by_cases q : w (c + g) < N + M
      · have := m.le (i := w (c + g)) (j := N + M) (by omega)
        have := hg N (Nat.le_refl _)
        omega
      · have x := hg (w (c + g) - M) (by omega)
        rw [show w (c + g) - M + M = w (c + g) by omega] at x
        have := b (w (c + g) - M) (by omega)
        omega
    omega
  show ((w (c + g) : Nat) : Int) = w c + M
  rw [e]
  simp
end RW
set_option Elab.async false
set_option linter.all false
set_option maxRecDepth 100000
set_option maxHeartbeats 4000000
namespace K17
open PySem PySem.Spec PyProof.Rows L2 LamX NdefX
section
variable {P : Program} {w : World} {K : PySem.W.Frag} {mg : Str → Option Value} {base : Heap}
theorem sup_uniq {f g : Nat → Int} {a b : Int} (h : IsSup f g a) (k : IsSup f g b) : a = b := by
  obtain ⟨⟨i, e1⟩, l1⟩ := h
  obtain ⟨⟨j, e2⟩, l2⟩ := k
  have := l1 j
  have := l2 i
  omega
theorem sc_taken_back : FnScope ["one", "other", "rows", "place", "row"] ["one", "other"] (defScope (topS 53)) := ⟨rfl, rfl, rfl, by decide +kernel, rfl, by decide +kernel, by decide +kernel⟩
def spTaken (K : PySem.W.Frag) : Sp := fun vs H Q _ => ∃ (p q : Addr) (f g : Nat → Int), vs = [.ref p, .ref q] ∧ Tabs (tbs K) H ∧ IsRow K H p f ∧ IsRow K H q g ∧ PairOk f g ∧ (Faster f g → ∀ H', Gr K H H' → Q .non H') ∧ (NotFaster f g → ∀ r H' b, Gr K H H' → IsRow K H' r b → IsSup f g (b 0) → Q (.ref r) H')
theorem ok_taken_back (X : Txt K mg) (TB : TabB base mg (He.cT K ("least_of_two", none)).1 (He.cT K ("least_of_two", none)).2) : Ok P w K mg base CX0 9 "taken_back" ["one", "other"] (spTaken K) := by
  refine ok_def0 X 38 rfl sc_taken_back (by decide +kernel) (fun vs H Q E h => ?_) (fun _ _ _ _ _ _ us hl => match us, hl with | [_, _], _ => rfl) (fun f cdv A outer s H vs Q E hr h => ?_)
  · obtain ⟨p, q, f, g, rfl, _⟩ := h; rfl
  · obtain ⟨p, q, F, G, rfl, hT, r1, r2, pok, fin1, fin2⟩ := h
    obtain ⟨t, dx1, x1, y1, ct, et, zt, z1, he1, hr1⟩ := r1.fields
    obtain ⟨u, dx2, x2, y2, cu, eu, zu, z2, he2, hr2⟩ := r2.fields
    have O1 : RowO K H p t := ⟨dx1, x1, y1, z1, he1, hr1⟩
    have O2 : RowO K H q u := ⟨dx2, x2, y2, z2, he2, hr2⟩
    obtain ⟨Aa, Bb, pf⟩ := pair_facts pok ct cu et eu
    refine ⟨_, (pss_cons (ps_if (pt_val (pe_o (ok_is_faster X) hr pass0 (pa_cons (pv 0) (pa_cons (pv 1) pa_nil))))
  (pss_one (ps_ret pe_non))
  pss_nil)
  (pss_cons (ps_setLc (i := 2) (own := [("place", 3)]) (g := (gName 3)) (tt := tYes) rfl sc_taken_back.nd rfl rfl (sw_true rfl rfl rfl (by decide +kernel)) (pi_range1 (by rfl) X.b_range (pa_cons (pe_o (ok_leads X) hr pass0 (pa_cons (pv 0) (pa_cons (pv 1) pa_nil))) pa_nil)) (blkOk_by (N := ["one", "other", "rows", "place", "row"]) (sc := defScope (topS 53)) (by decide +kernel)) (fun _ _ _ _ _ => (pg_name (i := 3) sc_taken_back.nd rfl (.inl rfl))) (fun _ _ _ _ _ => pts_nil) (fun _ _ _ _ _ => (pe_o (ok_raised X) hr pass0 (pa_cons (pe_o (ok_sooner_by X) hr pass0 (pa_cons (pv 0) (pa_cons (pv 3) pa_nil))) (pa_cons (pe_un un_neg (m1_K X (by decide +kernel) (ok_value X) hr pass0 (pv 1) (pa_cons (pv 3) pa_nil))) pa_nil)))))
  (pss_one (ps_ret (pe_o (ok_turned_about X) hr pass0 (pa_cons (pe_o (ok_least_among X TB) hr pass0 (pa_cons (pe_lc (own := [("row", 4)]) (g := (gName 4)) (tt := tYes) rfl sc_taken_back.nd (piL_K (K := K) (pv 2)) (blkOk_by (N := ["one", "other", "rows", "place", "row"]) (sc := defScope (topS 53)) (by decide +kernel)) (fun _ _ _ _ _ => (pg_name (i := 4) sc_taken_back.nd rfl (.inl rfl))) (fun _ _ _ _ _ => pts_nil) (fun _ _ _ _ _ => (pe_o (ok_turned_about X) hr pass0 (pa_cons (pv 4) pa_nil)))) pa_nil)) pa_nil)))))), ?_⟩
    refine ⟨_, rfl, _, rfl, p, q, t, u, rfl, O1, O2, zt.2, zu.2, _, rfl, iteD (fun e => ?_) (fun e => ?_)⟩
    · exact fin1 ⟨_, _, _, _, pf.m0, pf.g1, pf.g2, pf.fs.mp e⟩ H (Ge.refl _)
    · have hle : Aa ≤ Bb := by
        have : ¬ Bb < Aa := fun z => e (pf.fs.mpr z)
        omega
      refine ⟨_, rfl, _, rfl, p, q, t, u, rfl, O1, O2, ⟨ct.ne, zt.2⟩, ⟨cu.ne, zu.2⟩, fun H1 g1 => ?_⟩
      have bd := pf.bd
      generalize hmany : Nat.lcm t.c.length u.c.length = many at pf bd ⊢
      generalize hplace : max t.h.length u.h.length = place at bd ⊢
      have ga : RW.Gains F many Aa place := by rw [← hplace]; exact pf.g1
      have gb : RW.Gains G many Bb place := by rw [← hplace]; exact pf.g2
      have m0 := pf.m0
      refine ⟨_, rfl, by omega, by omega, fun D hD => ?_⟩
      rw [Int.toNat_natCast]
      refine lcr_rng (K := K) (fun i n => F (i + n) + - G i) hD (by omega) (fun i H4 Q4 hi g4 q4 => ?_) (fun H4 rs g4 R4 er => ?_)
      · have w1 := (g1.trans g4).row r1
        have w2 := (g1.trans g4).row r2
        obtain ⟨_, dxb, _, _, _, _, _, zb, _, _⟩ := w2.fields
        refine ⟨rfl, _, rfl, _, rfl, p, F, i, ?_, w1, by omega, fun r5 H5 g5 r5' => ?_⟩
        · show [V.ref p, V.int (0 + (i : Int))] = _
          rw [Int.zero_add]
        refine ⟨_, rfl, q, dxb, _, rfl, g5.at zb, rfl, _, rfl, q, G, i, ?_, g5.row w2, by omega, ?_⟩
        · show [V.ref q, V.int (0 + (i : Int))] = _
          rw [Int.zero_add]
        exact ⟨_, rfl, r5, _, - G i, rfl, r5', fun r6 H6 g6 r6' => q4 r6 H6 (g5.trans g6) r6'⟩
      have gr := g1.trans g4
      have len : rs.length = place + many := by have := congrArg List.length er; simpa using this
      refine ⟨_, rfl, D, rfl, ⟨_, .of R4.1⟩, fun D2 hD2 => ?_⟩
      refine lcr_lst (K := K) negF hD2 R4 (by omega) (fun p' f' H5 Q5 hp g5 q5 => ?_) (fun H5 rs5 g5 R5 e5 => ?_)
      · exact ⟨rfl, _, rfl, p', f', rfl, g5.row (R4.2 _ hp), fun r H6 g6 r6 => q5 r H6 g6 r6⟩
      have elem : ∀ f ∈ rs5.map (·.2), ∃ i, i < place + many ∧ f = negF (fun n => F (i + n) + - G i) := fun f hf => by
        rw [e5, er] at hf
        obtain ⟨f', hf', rfl⟩ := List.mem_map.mp hf
        obtain ⟨i, hi, rfl⟩ := List.mem_map.mp hf'
        exact ⟨i, List.mem_range.mp hi, rfl⟩
      have fam : Fam (rs5.map (·.2)) many place 0 (-Aa) (-Aa) := by
        refine ⟨m0, by omega, fun f hf => ?_, .inl rfl⟩
        obtain ⟨i, hi, rfl⟩ := elem f hf
        exact .inl (((ga.shift i).mono (M := place) (by omega)).add _).neg
      have gr5 := gr.trans g5
      refine ⟨D2, rs5, many, place, 0, _, _, rfl, gr5.tab hT, R5, ?_, fam, fun ra H6 b g6 r6 lo => ?_⟩
      · intro z
        have := congrArg List.length e5
        rw [z] at this
        simp at this
        omega
      refine ⟨ra, b, rfl, r6, fun r7 H7 g7 r7' => ?_⟩
      refine fin2 ⟨_, _, _, _, m0, ga, gb, hle⟩ r7 H7 _ ((gr5.trans g6).trans g7) r7' ?_
      refine ⟨?_, sup_bounded m0 ga gb hle fun n hn => ?_⟩
      · obtain ⟨f, hf, e⟩ := (lo 0).1
        obtain ⟨i, hi, rfl⟩ := elem f hf
        refine ⟨i, ?_⟩
        rw [e]
        show - -(F (i + 0) + - G i) = F i - G i
        rw [Nat.add_zero]; omega
      · have := (lo 0).2 (negF (fun k => F (n + k) + - G n)) (by
          rw [e5, er]
          exact List.mem_map.mpr ⟨_, List.mem_map.mpr ⟨n, List.mem_range.mpr hn, rfl⟩, rfl⟩)
        have e : negF (fun k => F (n + k) + - G n) 0 = -(F n + - G n) := by
          show -(F (n + 0) + - G n) = _
          rw [Nat.add_zero]
        rw [e] at this
        show F n - G n ≤ - b 0
        omega
theorem sc_take_back : FnScope ["one", "other"] ["one", "other"] (defScope (topS 54)) := ⟨rfl, rfl, rfl, by decide +kernel, rfl, by decide +kernel, by decide +kernel⟩
theorem ok_take_back (X : Txt K mg) (TB : TabB base mg (He.cT K ("least_of_two", none)).1 (He.cT K ("least_of_two", none)).2) : Ok P w K mg base CX0 10 "take_back" ["one", "other"] (spTaken K) := by
  refine ok_def0 X 39 rfl sc_take_back (by decide +kernel) (fun vs H Q E h => ?_) (fun _ _ _ _ _ _ us hl => match us, hl with | [_, _], _ => rfl) (fun f cdv A outer s H vs Q E hr h => ?_)
  · obtain ⟨p, q, f, g, rfl, _⟩ := h; rfl
  · obtain ⟨p, q, F, G, rfl, hT, r1, r2, pok, fin⟩ := h
    refine ⟨_, (pss_cons (ps_expr (pe_o (ok_check_two X) hr pass0 (pa_cons (pv 0) (pa_cons (pv 1) pa_nil))))
  (pss_one (ps_ret (pe_o (ok_taken_back X TB) hr pass0 (pa_cons (pv 0) (pa_cons (pv 1) pa_nil)))))), ?_⟩
    exact ⟨_, rfl, _, rfl, p, q, F, G, rfl, r1, r2, _, rfl, _, rfl, p, q, F, G, rfl, hT, r1, r2, pok, fin⟩
/-! ### does it fall -/
abbrev Mono (f : Nat → Int) : Prop := RW.Mono f
theorem mono_of {f : Nat → Int} {M N : Nat} {G : Int} (hM : 0 < M) (h : RW.Gains f M G N) (k : ∀ n, n < N + M → f n ≤ f (n + 1)) : Mono f := fun n => by
  induction n using Nat.strongRecOn with
  | _ n ih =>
    by_cases z : n < N + M
    · exact k n z
    · have a := h (n - M) (by omega)
      have b := h (n - M + 1) (by omega)
      rw [show n - M + M = n by omega] at a
      rw [show n - M + 1 + M = n + 1 by omega] at b
      have := ih (n - M) (by omega)
      omega
theorem sc_first_fall : FnScope ["row", "place"] ["row"] (defScope (topS 43)) := ⟨rfl, rfl, rfl, by decide +kernel, rfl, by decide +kernel, by decide +kernel⟩
def spFall (K : PySem.W.Frag) : Sp := fun vs H Q _ => ∃ (p : Addr) (f : Nat → Int), vs = [.ref p] ∧ IsRow K H p f ∧ (Mono f → Q .non H) ∧ (¬ Mono f → ∀ k : Int, Q (.int k) H)
theorem ok_first_fall (X : Txt K mg) : Ok P w K mg base CX0 3 "first_fall" ["row"] (spFall K) := by
  refine ok_def0 X 29 rfl sc_first_fall (by decide +kernel) (fun vs H Q E h => ?_) (fun _ _ _ _ _ _ us hl => match us, hl with | [_], _ => rfl) (fun f cdv A outer s H vs Q E hr h => ?_)
  · obtain ⟨p, f, rfl, _⟩ := h; rfl
  · obtain ⟨p, F, rfl, r1, fin1, fin2⟩ := h
    obtain ⟨t, dx, x1, y1, ct, et, ⟨zh, zc⟩, z1, he, hr'⟩ := r1.fields
    have gt := (RW.ev_gains ct.ne).congr et
    refine ⟨_, (pss_cons (ps_expr (pe_o (ok_check_row X) hr pass0 (pa_cons (pv 0) pa_nil)))
  (pss_cons (ps_for PassesOwn.never rfl (pi_range1 (by rfl) X.b_range (pa_cons (pe_op op_add (pe_callB (len_K (K := K)) (by rfl) X.b_len (by decide +kernel) (pa_cons (fld_K (K := K) (pv 0)) pa_nil)) (pe_callB (len_K (K := K)) (by rfl) X.b_len (by decide +kernel) (pa_cons (fld_K (K := K) (pv 0)) pa_nil))) pa_nil)) (pg_name (i := 1) sc_first_fall.nd rfl (.inl rfl))
  (pss_one (ps_if (pt_cmpR op_gt (m1_K X (by decide +kernel) (ok_value X) hr pass0 (pv 0) (pa_cons (pv 1) pa_nil)) (m1_K X (by decide +kernel) (ok_value X) hr pass0 (pv 0) (pa_cons (pe_op op_add (pv 1) pe_int) pa_nil)) (nomark _))
  (pss_one (ps_ret (pv 1)))
  pss_nil)))
  (pss_one (ps_ret pe_non)))), ?_⟩
    refine ⟨_, rfl, p, F, rfl, r1, ?_⟩
    refine ⟨_, rfl, p, _, dx, _, _, rfl, z1, X.cls, X.at1, rfl, x1, _, rfl, .inr (.of he), ?_⟩
    refine ⟨_, rfl, p, _, dx, _, _, rfl, z1, X.cls, X.at2, rfl, y1, _, rfl, .inr (.of hr'), ?_⟩
    rw [List.length_map, List.length_map]
    refine ⟨_, _, rfl, rfl, (t.h.length : Int) + t.c.length, rfl, by omega, by omega, ?_⟩
    rw [show ((t.h.length : Int) + t.c.length).toNat = t.h.length + t.c.length by omega]
    refine for_any (n := t.h.length + t.c.length) (fun i σ H2 => H2 = H ∧ (∃ j1, σ = [some (.ref p), j1]) ∧ ∀ n, n < i → F n ≤ F (n + 1)) ⟨rfl, ⟨none, rfl⟩, fun n hn => by omega⟩ (fun i σ H2 hi h => hi) (fun σ H2 h => Nat.le_refl _) (fun i x σ H2 H3 hi h hy => ?_) (fun σ H2 h => ?_)
    · obtain ⟨rfl, ⟨j1, rfl⟩, hall⟩ := h
      obtain ⟨rfl, rfl⟩ := hy
      rw [Int.zero_add]
      refine ⟨_, rfl, p, dx, _, rfl, z1, rfl, _, rfl, p, F, i, rfl, r1, by omega, ?_⟩
      refine ⟨_, rfl, p, dx, _, rfl, z1, rfl, _, rfl, _, _, rfl, rfl, p, F, i + 1, rfl, r1, by omega, ?_⟩
      refine ⟨_, _, rfl, rfl, _, rfl, iteD (fun e => ?_) (fun e => ?_)⟩
      · exact ⟨_, rfl, fin2 (fun m => by have := m i; omega) _⟩
      · exact ⟨rfl, ⟨_, rfl⟩, fun n hn => by
          by_cases z : n = i
          · subst z; omega
          · exact hall n (by omega)⟩
    · obtain ⟨rfl, _, hall⟩ := h
      exact fin1 (mono_of ct.ne gt hall)
end
end K17
set_option Elab.async false
set_option linter.all false
set_option maxRecDepth 100000
set_option maxHeartbeats 4000000
namespace K17
open PySem PySem.Spec PyProof.Rows L2 LamX NdefX
section
variable {P : Program} {w : World} {K : PySem.W.Frag} {mg : Str → Option Value} {base : Heap}
def AboveOk (f g : Nat → Int) : Prop := ∃ (M N L : Nat) (G1 G2 : Int), 0 < M ∧ RW.Gains f M G1 N ∧ RW.Gains g M G2 N ∧ N + 2 * M ≤ 8000000 ∧ L ≤ 2 ^ 28 ∧ ∀ n, n < N + 2 * M → f n - g n ≤ L ∧ g n - f n ≤ L
theorem below_of {f g : Nat → Int} {M N : Nat} {G1 G2 : Int} (hM : 0 < M) (h1 : RW.Gains f M G1 N) (h2 : RW.Gains g M G2 N) (hle : G1 ≤ G2) (k : ∀ n, n < N + M → f n ≤ g n) (n : Nat) : f n ≤ g n := by
  have := sup_bounded (m := 0) hM h1 h2 hle (fun n hn => by have := k n hn; omega) n
  omega
theorem above_of {f g : Nat → Int} {M N : Nat} {G1 G2 : Int} (h1 : RW.Gains f M G1 N) (h2 : RW.Gains g M G2 N) (hlt : G2 < G1) {j : Nat} (hj : N ≤ j) : ∃ n, g n < f n := by
  have a := h1.many ((g j - f j).toNat + 1) hj
  have b := h2.many ((g j - f j).toNat + 1) hj
  refine ⟨j + ((g j - f j).toNat + 1) * M, ?_⟩
  rw [a, b]
  have c : (((g j - f j).toNat + 1 : Nat) : Int) * 1 ≤ (((g j - f j).toNat + 1 : Nat) : Int) * (G1 - G2) := Int.mul_le_mul_of_nonneg_left (by omega) (by omega)
  rw [Int.mul_sub] at c
  omega
theorem sc_place_above : FnScope ["one", "other", "many", "place", "number", "more", "found", "lack"] ["one", "other"] (defScope (topS 41)) := ⟨rfl, rfl, rfl, by decide +kernel, rfl, by decide +kernel, by decide +kernel⟩
def spAbove (K : PySem.W.Frag) : Sp := fun vs H Q _ => ∃ (p q : Addr) (f g : Nat → Int), vs = [.ref p, .ref q] ∧ IsRow K H p f ∧ IsRow K H q g ∧ AboveOk f g ∧ ((∀ n, f n ≤ g n) → ∀ H', Gr K H H' → Q .non H') ∧ ((∃ n, g n < f n) → ∀ H' (k : Int), Gr K H H' → Q (.int k) H')
theorem ok_place_above (X : Txt K mg) : Ok P w K mg base CX0 3 "place_above" ["one", "other"] (spAbove K) := by
  refine ok_def0 X 27 rfl sc_place_above (by decide +kernel) (fun vs H Q E h => ?_) (fun _ _ _ _ _ _ us hl => match us, hl with | [_, _], _ => rfl) (fun f cdv A outer s H vs Q E hr h => ?_)
  · obtain ⟨p, q, f, g, rfl, _⟩ := h; rfl
  · obtain ⟨p, q, F, G, rfl, r1, r2, ⟨M, N, L, G1, G2, hM, hG1, hG2, hbd, hL28, hL⟩, fin1, fin2⟩ := h
    obtain ⟨t, dx1, x1, y1, ct, et, zt, z1, he1, hr1⟩ := r1.fields
    obtain ⟨u, dx2, x2, y2, cu, eu, zu, z2, he2, hr2⟩ := r2.fields
    have O1 : RowO K H p t := ⟨dx1, x1, y1, z1, he1, hr1⟩
    have O2 : RowO K H q u := ⟨dx2, x2, y2, z2, he2, hr2⟩
    have kt := hG1.congr fun n => (et n).symm
    have ku := hG2.congr fun n => (eu n).symm
    have ht := ct.head_le hM kt
    have hu' := cu.head_le hM ku
    have dt : t.c.length ∣ M := Nat.dvd_of_mod_eq_zero (ct.dvd ⟨hM, _, _, kt⟩)
    have du : u.c.length ∣ M := Nat.dvd_of_mod_eq_zero (cu.dvd ⟨hM, _, _, ku⟩)
    have lm : Nat.lcm t.c.length u.c.length ≤ M := Nat.le_of_dvd hM (Nat.lcm_dvd dt du)
    have m0 : 0 < Nat.lcm t.c.length u.c.length := Nat.lcm_pos ct.ne cu.ne
    have e1 := Nat.div_mul_cancel (Nat.dvd_lcm_left t.c.length u.c.length)
    have e2 := Nat.div_mul_cancel (Nat.dvd_lcm_right t.c.length u.c.length)
    have g1 := ((RW.ev_gains ct.ne).congr et).mul (Nat.lcm t.c.length u.c.length / t.c.length)
    have g2 := ((RW.ev_gains cu.ne).congr eu).mul (Nat.lcm t.c.length u.c.length / u.c.length)
    rw [e1, Int.mul_comm] at g1
    rw [e2, Int.mul_comm] at g2
    refine ⟨_, (pss_cons (ps_par (i := 2) (j := 3) (by rfl) sc_place_above.nd rfl rfl (by decide) rfl rfl (pa_cons (pe_o (ok_round_of X) hr pass0 (pa_cons (pe_lst (pa_cons (pv 0) (pa_cons (pv 1) pa_nil))) pa_nil)) (pa_cons (pe_o (ok_behind_heads X) hr pass0 (pa_cons (pe_lst (pa_cons (pv 0) (pa_cons (pv 1) pa_nil))) pa_nil)) pa_nil)) (by rfl))
  (pss_cons (ps_for PassesOwn.never rfl (pi_range1 (by rfl) X.b_range (pa_cons (pv 3) pa_nil)) (pg_name (i := 4) sc_place_above.nd rfl (.inl rfl))
  (pss_one (ps_if (pt_cmpR op_gt (m1_K X (by decide +kernel) (ok_value X) hr pass0 (pv 0) (pa_cons (pv 4) pa_nil)) (m1_K X (by decide +kernel) (ok_value X) hr pass0 (pv 1) (pa_cons (pv 4) pa_nil)) (nomark _))
  (pss_one (ps_ret (pv 4)))
  pss_nil)))
  (pss_cons (ps_par (i := 5) (j := 6) (by rfl) sc_place_above.nd rfl rfl (by decide) rfl rfl (pa_cons (pe_op op_sub (pe_o (ok_gain_of X) hr pass0 (pa_cons (pv 0) (pa_cons (pv 2) pa_nil))) (pe_o (ok_gain_of X) hr pass0 (pa_cons (pv 1) (pa_cons (pv 2) pa_nil)))) (pa_cons (pe_lst pa_nil) pa_nil)) (by rfl))
  (pss_cons (ps_for PassesOwn.never rfl (pi_range2 (by rfl) X.b_range (pa_cons (pv 3) (pa_cons (pe_op op_add (pv 3) (pv 2)) pa_nil))) (pg_name (i := 4) sc_place_above.nd rfl (.inl rfl))
  (pss_cons (ps_set (i := 7) sc_place_above.nd rfl (.inl rfl) (pe_op op_sub (m1_K X (by decide +kernel) (ok_value X) hr pass0 (pv 1) (pa_cons (pv 4) pa_nil)) (m1_K X (by decide +kernel) (ok_value X) hr pass0 (pv 0) (pa_cons (pv 4) pa_nil))))
  (pss_one (ps_if (pt_cmpR op_lt (pv 7) pe_int (nomark _))
  (pss_one (ps_expr (bm_K (K := K) PySem.F.plainAttrs_list PySem.F.slot_list_append PySem.F.type_list_append mt_append (pv 6) (pa_cons (pv 4) pa_nil))))
  (pss_one (ps_if (pt_cmpR op_gt (pv 5) pe_int (nomark _))
  (pss_one (ps_expr (bm_K (K := K) PySem.F.plainAttrs_list PySem.F.slot_list_append PySem.F.type_list_append mt_append (pv 6) (pa_cons (pe_op op_add (pv 4) (pe_op op_mul (pe_op op_add (pe_op op_fdiv (pv 7) (pv 5)) pe_int) (pv 2))) pa_nil))))
  pss_nil))))))
  (pss_one (ps_ret (pe_ifExp (pt_cmpR op_gt (pe_callB (len_K (K := K)) (by rfl) X.b_len (by decide +kernel) (pa_cons (pv 6) pa_nil)) pe_int (nomark _)) (pe_callB (min_K (K := K)) (by rfl) X.b_min (by decide +kernel) (pa_cons (pv 6) pa_nil)) pe_non))))))), ?_⟩
    refine ⟨_, rfl, _, rfl, by show 2 ≤ sizeLine; decide, fun l1 n1 => ?_⟩
    have gl : Gr K H (upd H l1 (.lst [.ref p, .ref q])) := Ge.new n1
    refine ⟨l1, t, u, rfl, ⟨p, q, upd_same, gl.rowO O1, gl.rowO O2, ⟨ct.ne, zt.2⟩, cu.ne, zu.2⟩, ?_⟩
    refine ⟨_, rfl, _, rfl, by show 2 ≤ sizeLine; decide, fun l2 n2 => ?_⟩
    have gl2 : Gr K H (upd (upd H l1 (.lst [.ref p, .ref q])) l2 (.lst [.ref p, .ref q])) := gl.trans (Ge.new n2)
    refine ⟨l2, t, u, rfl, ⟨p, q, upd_same, gl2.rowO O1, gl2.rowO O2, ⟨ct.ne, zt.2⟩, cu.ne, zu.2⟩, fun H3 g3 => ?_⟩
    have gr3 := gl2.trans g3
    generalize hmany : Nat.lcm t.c.length u.c.length = many at *
    generalize hplace : max t.h.length u.h.length = place at *
    have ga := g1.mono (M := place) (by omega)
    have gb := g2.mono (M := place) (by omega)
    have w1 := gr3.row r1
    have w2 := gr3.row r2
    refine ⟨_, _, rfl, ?_⟩
    refine ⟨_, rfl, place, rfl, by omega, by omega, ?_⟩
    rw [Int.toNat_natCast]
    refine for_any (n := place) (fun i σ H2 => H2 = H3 ∧ (∃ j4, σ = [some (.ref p), some (.ref q), some (.int many), some (.int place), j4, none, none, none]) ∧ ∀ n, n < i → F n ≤ G n) ⟨rfl, ⟨none, rfl⟩, fun n hn => by omega⟩ (fun i σ H2 hi h => hi) (fun σ H2 h => Nat.le_refl _) (fun i x σ H2 H4 hi h hy => ?_) (fun σ H2 h => ?_)
    · obtain ⟨rfl, ⟨j1, rfl⟩, hall⟩ := h
      obtain ⟨rfl, rfl⟩ := hy
      obtain ⟨_, dxa, _, _, _, _, _, za, _, _⟩ := w1.fields
      obtain ⟨_, dxb, _, _, _, _, _, zb, _, _⟩ := w2.fields
      rw [Int.zero_add]
      refine ⟨_, rfl, p, dxa, _, rfl, za, rfl, _, rfl, p, F, i, rfl, w1, by omega, ?_⟩
      refine ⟨_, rfl, q, dxb, _, rfl, zb, rfl, _, rfl, q, G, i, rfl, w2, by omega, ?_⟩
      refine ⟨_, _, rfl, rfl, _, rfl, iteD (fun e => ?_) (fun e => ?_)⟩
      · exact ⟨_, rfl, fin2 ⟨i, by omega⟩ _ _ gr3⟩
      · exact ⟨rfl, ⟨_, rfl⟩, fun n hn => by
          by_cases z : n = i
          · subst z; omega
          · exact hall n (by omega)⟩
    · obtain ⟨rfl, ⟨j4, rfl⟩, hall⟩ := h
      refine ⟨_, rfl, _, rfl, p, t, many, rfl, gr3.rowO O1, ct.ne, zt.2, by omega, ?_⟩
      refine ⟨_, rfl, _, rfl, q, u, many, rfl, gr3.rowO O2, cu.ne, zu.2, by omega, ?_⟩
      generalize t.g * ((many / t.c.length : Nat) : Int) = Aa at ga ⊢
      generalize u.g * ((many / u.c.length : Nat) : Int) = Bb at gb ⊢
      refine ⟨_, _, rfl, rfl, by show 0 ≤ sizeLine; decide, fun D hD => ?_⟩
      refine ⟨_, _, rfl, ?_⟩
      refine ⟨_, rfl, _, rfl, _, rfl, _, _, rfl, rfl, (place : Int), (place : Int) + many, rfl, ⟨by omega, by omega, by omega, by omega⟩, ?_⟩
      rw [show ((place : Int) + many - place).toNat = many by omega]
      have hD0 : H2 D = none := hD
      have hmore : Aa - Bb ≤ 2 * L := by
        have a1 := hL place (by omega)
        have a2 := hL (place + many) (by omega)
        have b1 := ga place (Nat.le_refl _)
        have b2 := gb place (Nat.le_refl _)
        omega
      refine for_any (n := many) (fun i σ H4 => Gr K H2 H4 ∧ (∃ j4 j7, σ = [some (.ref p), some (.ref q), some (.int many), some (.int place), j4, some (.int (Aa - Bb)), some (.ref D), j7]) ∧ ∃ ns : List Int, H4 D = some (.lst (ns.map V.int)) ∧ ns.length ≤ i ∧ (ns = [] → (∀ j, place ≤ j → j < place + i → F j ≤ G j) ∧ (0 < i → Aa ≤ Bb)) ∧ (ns ≠ [] → ∃ n, G n < F n))
        ⟨Ge.new hD, ⟨j4, none, rfl⟩, [], upd_same, by simp, fun _ => ⟨fun j h1 h2 => by omega, fun h => by omega⟩, fun h => absurd rfl h⟩ (fun i σ H2 hi h => hi) (fun σ H2 h => Nat.le_refl _) (fun i x σ H4 H5 hi h hy => ?_) (fun σ H4 h => ?_)
      · obtain ⟨g4, ⟨j4', j7, rfl⟩, ns, hd, hlen, hz, hnz⟩ := h
        obtain ⟨rfl, rfl⟩ := hy
        have v1 := g4.row w1
        have v2 := g4.row w2
        obtain ⟨_, dxa, _, _, _, _, _, za, _, _⟩ := v1.fields
        obtain ⟨_, dxb, _, _, _, _, _, zb, _, _⟩ := v2.fields
        rw [show (place : Int) + (i : Int) = ((place + i : Nat) : Int) by omega]
        have hLi := hL (place + i) (by omega)
        have grow : ∀ k : Int, (∃ n, G n < F n) → Gr K H2 (upd H5 D (.lst (ns.map V.int ++ [.int k]))) ∧ ∃ ns' : List Int, upd H5 D (.lst (ns.map V.int ++ [.int k])) D = some (.lst (ns'.map V.int)) ∧ ns'.length ≤ i + 1 ∧ (ns' = [] → (∀ j, place ≤ j → j < place + (i + 1) → F j ≤ G j) ∧ (0 < i + 1 → Aa ≤ Bb)) ∧ (ns' ≠ [] → ∃ n, G n < F n) := fun k hk =>
          ⟨g4.put hD0 hd (by intro _ z; cases z) (by intro _ z; cases z), ns ++ [k], by rw [upd_same, List.map_append]; rfl, by simp; omega, fun z => by simp at z, fun _ => hk⟩
        refine ⟨_, rfl, q, dxb, _, rfl, zb, rfl, _, rfl, q, G, place + i, rfl, v2, by omega, ?_⟩
        refine ⟨_, rfl, p, dxa, _, rfl, za, rfl, _, rfl, p, F, place + i, rfl, v1, by omega, ?_⟩
        refine ⟨_, _, rfl, rfl, _, rfl, _, _, rfl, rfl, _, rfl, iteD (fun e => ?_) (fun e => ?_)⟩
        · refine ⟨_, rfl, .inl ⟨rfl, _, .of hd⟩, _, rfl, ?_⟩
          refine ⟨D, _, _, rfl, rfl, hd, by rw [List.length_map]; exact sizedL (by omega), ?_⟩
          obtain ⟨a, b⟩ := grow ((place + i : Nat) : Int) ⟨place + i, by omega⟩
          exact ⟨a, ⟨_, _, rfl⟩, b⟩
        · refine ⟨_, rfl, _, _, rfl, rfl, _, rfl, iteD (fun e2 => ?_) (fun e2 => ?_)⟩
          · refine ⟨_, rfl, .inl ⟨rfl, _, .of hd⟩, _, rfl, _, rfl, _, rfl, _, _, rfl, rfl, ⟨by omega, by omega⟩, _, _, rfl, rfl, _, rfl, _, _, rfl, rfl, .inr ⟨by omega, by omega⟩, _, _, rfl, rfl, ?_⟩
            refine ⟨D, _, _, rfl, rfl, hd, by rw [List.length_map]; exact sizedL (by omega), ?_⟩
            obtain ⟨a, b⟩ := grow _ (above_of ga gb (by omega) (j := place) (Nat.le_refl _))
            exact ⟨a, ⟨_, _, rfl⟩, b⟩
          · refine ⟨g4, ⟨_, _, rfl⟩, ns, hd, by omega, fun z => ⟨fun j h1 h2 => ?_, fun _ => by omega⟩, hnz⟩
            by_cases ej : j = place + i
            · subst ej; omega
            · exact (hz z).1 j h1 (by omega)
      · obtain ⟨g4, ⟨j4', j7, rfl⟩, ns, hd, hlen, hz, hnz⟩ := h
        refine ⟨_, rfl, D, _, rfl, .inl (.of hd), ?_⟩
        rw [List.length_map]
        refine ⟨_, _, rfl, rfl, _, rfl, iteD (fun e => ?_) (fun e => ?_)⟩
        · refine ⟨_, rfl, D, ns, rfl, .of hd, by omega, fun m hm hle => ?_⟩
          exact fin2 (hnz fun z => by rw [z] at e; simp at e) _ _ (gr3.trans g4)
        · have z : ns = [] := List.length_eq_zero_iff.mp (by omega)
          obtain ⟨a, b⟩ := hz z
          refine fin1 (below_of m0 ga gb (b m0) fun n hn => ?_) _ (gr3.trans g4)
          by_cases q : n < place
          · exact hall n q
          · exact a n (by omega) hn
end
end K17
set_option Elab.async false
set_option linter.all false
set_option maxRecDepth 100000
set_option maxHeartbeats 4000000
namespace K17
open PySem PySem.Spec PyProof.Rows L2 LamX NdefX
section
variable {P : Program} {w : World} {K : PySem.W.Frag} {mg : Str → Option Value} {base : Heap}
theorem sc_first_above : FnScope ["one", "other"] ["one", "other"] (defScope (topS 42)) := ⟨rfl, rfl, rfl, by decide +kernel, rfl, by decide +kernel, by decide +kernel⟩
theorem ok_first_above (X : Txt K mg) : Ok P w K mg base CX0 4 "first_above" ["one", "other"] (spAbove K) := by
  refine ok_def0 X 28 rfl sc_first_above (by decide +kernel) (fun vs H Q E h => ?_) (fun _ _ _ _ _ _ us hl => match us, hl with | [_, _], _ => rfl) (fun f cdv A outer s H vs Q E hr h => ?_)
  · obtain ⟨p, q, f, g, rfl, _⟩ := h; rfl
  · obtain ⟨p, q, F, G, rfl, r1, r2, aok, fin⟩ := h
    refine ⟨_, (pss_cons (ps_expr (pe_o (ok_check_row X) hr pass0 (pa_cons (pv 0) pa_nil)))
  (pss_cons (ps_expr (pe_o (ok_check_row X) hr pass0 (pa_cons (pv 1) pa_nil)))
  (pss_one (ps_ret (pe_o (ok_place_above X) hr pass0 (pa_cons (pv 0) (pa_cons (pv 1) pa_nil))))))), ?_⟩
    exact ⟨_, rfl, p, F, rfl, r1, _, rfl, q, G, rfl, r2, _, rfl, _, rfl, p, q, F, G, rfl, r1, r2, aok, fin⟩
/-! ### rising rows -/
def Rising (f : Nat → Int) : Prop := 0 ≤ f 0 ∧ Mono f
theorem sc_is_rising : FnScope ["row"] ["row"] (defScope (topS 56)) := ⟨rfl, rfl, rfl, by decide +kernel, rfl, by decide +kernel, by decide +kernel⟩
def spRising (K : PySem.W.Frag) : Sp := fun vs H Q _ => ∃ (p : Addr) (f : Nat → Int), vs = [.ref p] ∧ IsRow K H p f ∧ (Rising f → Q (.bl true) H) ∧ (¬ Rising f → Q (.bl false) H)
theorem ok_is_rising (X : Txt K mg) : Ok P w K mg base CX0 5 "is_rising" ["row"] (spRising K) := by
  refine ok_def0 X 40 rfl sc_is_rising (by decide +kernel) (fun vs H Q E h => ?_) (fun _ _ _ _ _ _ us hl => match us, hl with | [_], _ => rfl) (fun f cdv A outer s H vs Q E hr h => ?_)
  · obtain ⟨p, f, rfl, _⟩ := h; rfl
  · obtain ⟨p, F, rfl, r1, fin1, fin2⟩ := h
    obtain ⟨t, dx, x1, y1, ct, et, ⟨zh, zc⟩, z1, he, hr'⟩ := r1.fields
    refine ⟨_, (pss_one (ps_ret (pe_and (pe_cmpR op_ge (m1_K X (by decide +kernel) (ok_at X) hr pass0 (pv 0) (pa_cons pe_int pa_nil)) pe_int (nomark _)) (pe_one (pe_cmpR op_isN (pe_o (ok_first_fall X) hr pass0 (pa_cons (pv 0) pa_nil)) pe_non (nomark _)))))), ?_⟩
    refine ⟨_, rfl, p, dx, _, rfl, z1, rfl, p, F, 0, rfl, r1, by decide, ?_⟩
    refine ⟨_, _, rfl, rfl, _, rfl, iteD (fun e => ?_) (fun e => ?_)⟩
    · refine ⟨_, rfl, p, F, rfl, r1, fun m => ⟨rfl, fin1 ⟨by omega, m⟩⟩, fun m k => ⟨rfl, fin2 fun z => m z.2⟩⟩
    · exact fin2 fun z => e (by have := z.1; omega)
theorem sc_is_counting : FnScope ["row"] ["row"] (defScope (topS 57)) := ⟨rfl, rfl, rfl, by decide +kernel, rfl, by decide +kernel, by decide +kernel⟩
def spCounting (K : PySem.W.Frag) : Sp := fun vs H Q _ => ∃ (p : Addr) (f : Nat → Int) (t : RW.Tri), vs = [.ref p] ∧ IsRow K H p f ∧ RowO K H p t ∧ (Rising f → 0 < t.g → Q (.bl true) H) ∧ (¬ (Rising f ∧ 0 < t.g) → Q (.bl false) H)
theorem ok_is_counting (X : Txt K mg) : Ok P w K mg base CX0 6 "is_counting" ["row"] (spCounting K) := by
  refine ok_def0 X 41 rfl sc_is_counting (by decide +kernel) (fun vs H Q E h => ?_) (fun _ _ _ _ _ _ us hl => match us, hl with | [_], _ => rfl) (fun f cdv A outer s H vs Q E hr h => ?_)
  · obtain ⟨p, f, t, rfl, _⟩ := h; rfl
  · obtain ⟨p, F, t, rfl, r1, O1, fin1, fin2⟩ := h
    refine ⟨_, (pss_cons (ps_expr (pe_o (ok_check_row X) hr pass0 (pa_cons (pv 0) pa_nil)))
  (pss_one (ps_ret (pe_and (pe_o (ok_is_rising X) hr pass0 (pa_cons (pv 0) pa_nil)) (pe_one (pe_cmpR op_gt (m0_K X (by decide +kernel) (ok_gain X) hr pass0 (pv 0)) pe_int (nomark _))))))), ?_⟩
    obtain ⟨dx, e1, r, hx, he, hr'⟩ := O1
    refine ⟨_, rfl, p, F, rfl, r1, ?_⟩
    refine ⟨_, rfl, p, F, rfl, r1, fun rz => ⟨true, rfl, ?_⟩, fun nz => ⟨false, rfl, ?_⟩⟩
    · refine ⟨_, rfl, p, dx, _, rfl, hx, rfl, p, t, rfl, ⟨dx, e1, r, hx, he, hr'⟩, _, _, rfl, rfl, ?_⟩
      by_cases z : 0 < t.g
      · exact qDT z (fin1 rz z)
      · exact qDF z (fin2 fun q => z q.2)
    · exact fin2 fun q => nz q.1
theorem sc_when_of : FnScope ["row", "low", "many", "gain", "values", "found", "place", "number"] ["row"] (defScope (topS 58)) := ⟨rfl, rfl, rfl, by decide +kernel, rfl, by decide +kernel, by decide +kernel⟩
def WhenOk (f : Nat → Int) : Prop := ∃ (M N : Nat) (G : Int), 0 < M ∧ RW.Gains f M G N ∧ 0 < G ∧ f N + G ≤ 7000000 ∧ N + M ≤ 7000000
def spWhenOf (K : PySem.W.Frag) : Sp := fun vs H Q _ => ∃ (p : Addr) (f : Nat → Int), vs = [.ref p] ∧ IsRow K H p f ∧ Rising f ∧ WhenOk f ∧ ∀ r H' w, Gr K H H' → RW.IsW f w → IsRow K H' r (fun c => (w c : Int)) → Q (.ref r) H'
theorem ok_when_of (X : Txt K mg) : Ok P w K mg base CX0 6 "when_of" ["row"] (spWhenOf K) := by
  refine ok_def0 X 42 rfl sc_when_of (by decide +kernel) (fun vs H Q E h => ?_) (fun _ _ _ _ _ _ us hl => match us, hl with | [_], _ => rfl) (fun f cdv A outer s H vs Q E hr h => ?_)
  · obtain ⟨p, f, rfl, _⟩ := h; rfl
  · obtain ⟨p, F, rfl, r1, ⟨pos, mono⟩, ⟨M, N, G, hM, hG, hG0, hb1, hb2⟩, fin⟩ := h
    obtain ⟨t, dx, x1, y1, ct, et, ⟨zh, zc⟩, z1, he, hr'⟩ := r1.fields
    have kt := hG.congr fun n => (et n).symm
    have ht := ct.head_le hM kt
    have dt : t.c.length ∣ M := Nat.dvd_of_mod_eq_zero (ct.dvd ⟨hM, _, _, kt⟩)
    have cM := Nat.le_of_dvd hM dt
    have gt := (RW.ev_gains ct.ne).congr et
    have c0 := ct.ne
    have hg0 : 0 < t.g ∧ t.g ≤ G := by
      have cr := gt.cross hG
      have a : (M : Int) * t.g ≤ M * G := by
        rw [cr]; exact Int.mul_le_mul_of_nonneg_right (by omega) (by omega)
      refine ⟨?_, Int.le_of_mul_le_mul_left a (by omega)⟩
      apply Classical.byContradiction
      intro z
      have : (M : Int) * t.g ≤ M * 0 := Int.mul_le_mul_of_nonneg_left (by omega) (by omega)
      have : (0 : Int) < t.c.length * G := Int.mul_pos (by omega) hG0
      omega
    obtain ⟨w, hw⟩ := RW.w_ex hG hG0
    have fl : 0 ≤ F t.h.length := Int.le_trans pos (mono.le (Nat.zero_le _))
    have flN : F t.h.length ≤ F N := mono.le ht
    obtain ⟨gn, egn⟩ : ∃ gn : Nat, t.g = gn := ⟨t.g.toNat, by omega⟩
    obtain ⟨C, eC⟩ : ∃ C : Nat, F t.h.length = C := ⟨(F t.h.length).toNat, by omega⟩
    have gw : RW.Gains (fun c => (w c : Int)) gn t.c.length (C + 1) := by
      refine hw.gains mono (N := t.h.length) ?_ (by omega)
      rw [← egn]; exact gt
    have last := gt t.h.length (Nat.le_refl _)
    refine ⟨_, (pss_cons (ps_par3 (i := 1) (j := 2) (l := 3) (by rfl) sc_when_of.nd rfl rfl rfl (by decide) (by decide) (by decide) rfl rfl rfl (pa_cons (pe_callB (len_K (K := K)) (by rfl) X.b_len (by decide +kernel) (pa_cons (m0_K X (by decide +kernel) (ok_head X) hr pass0 (pv 0)) pa_nil)) (pa_cons (pe_callB (len_K (K := K)) (by rfl) X.b_len (by decide +kernel) (pa_cons (m0_K X (by decide +kernel) (ok_cycle X) hr pass0 (pv 0)) pa_nil)) (pa_cons (m0_K X (by decide +kernel) (ok_gain X) hr pass0 (pv 0)) pa_nil))) (by rfl))
  (pss_cons (ps_par3 (i := 4) (j := 5) (l := 6) (by rfl) sc_when_of.nd rfl rfl rfl (by decide) (by decide) (by decide) rfl rfl rfl (pa_cons (m1_K X (by decide +kernel) (ok_upto X) hr pass0 (pv 0) (pa_cons (pe_op op_add (pe_op op_add (pv 1) (pv 2)) pe_int) pa_nil)) (pa_cons (pe_lst pa_nil) (pa_cons pe_int pa_nil))) (by rfl))
  (pss_cons (ps_for PassesOwn.never rfl (pi_range1 (by rfl) X.b_range (pa_cons (pe_op op_add (pe_op op_add (pe_ix (ixL_K (K := K)) (pv 4) (pv 1) (fun _ _ => rfl)) (pv 3)) pe_int) pa_nil)) (pg_name (i := 7) sc_when_of.nd rfl (.inl rfl))
  (pss_cons (ps_while PassesOwn.never (pt_cmpR op_lt (pe_ix (ixL_K (K := K)) (pv 4) (pv 6) (fun _ _ => rfl)) (pv 7) (nomark _))
  (pss_one (ps_set (i := 6) sc_when_of.nd rfl (.inl rfl) (pe_op op_add (pv 6) pe_int))))
  (pss_one (ps_expr (bm_K (K := K) PySem.F.plainAttrs_list PySem.F.slot_list_append PySem.F.type_list_append mt_append (pv 5) (pa_cons (pv 6) pa_nil))))))
  (pss_one (ps_ret (row_K X (ok_init X) hr pass0 (pa_cons (pe_slice (slL_K (K := K)) (pv 5) po_none (po_some (pe_op op_add (pe_ix (ixL_K (K := K)) (pv 4) (pv 1) (fun _ _ => rfl)) pe_int))) (pa_cons (pe_slice (slL_K (K := K)) (pv 5) (po_some (pe_op op_add (pe_ix (ixL_K (K := K)) (pv 4) (pv 1) (fun _ _ => rfl)) pe_int)) po_none) (pa_cons (pv 2) pa_nil))))))))), ?_⟩
    refine ⟨_, rfl, p, dx, _, rfl, z1, rfl, p, t, rfl, ⟨dx, x1, y1, z1, he, hr'⟩, fun H1 l1 g1 h1 => ?_⟩
    refine ⟨l1, _, rfl, .inl (.of h1), ?_⟩
    refine ⟨_, rfl, p, dx, _, rfl, g1.at z1, rfl, p, t, rfl, g1.rowO ⟨dx, x1, y1, z1, he, hr'⟩, fun H2 l2 g2 h2 => ?_⟩
    have gr2 := g1.trans g2
    refine ⟨l2, _, rfl, .inl (.of h2), ?_⟩
    refine ⟨_, rfl, p, dx, _, rfl, gr2.at z1, rfl, p, t, rfl, gr2.rowO ⟨dx, x1, y1, z1, he, hr'⟩, ?_⟩
    rw [List.length_map, List.length_map]
    refine ⟨_, _, _, rfl, ?_⟩
    refine ⟨_, rfl, p, dx, _, rfl, gr2.at z1, rfl, _, rfl, _, rfl, _, _, rfl, rfl, _, _, rfl, rfl, p, F, t.h.length + t.c.length + 1, rfl, gr2.row r1, by omega, fun H3 l3 g3 n3 h3 => ?_⟩
    refine ⟨by show 0 ≤ sizeLine; decide, fun D hD => ?_⟩
    have gr3 := gr2.trans g3
    have vl : ((List.range (t.h.length + t.c.length + 1)).map F).length = t.h.length + t.c.length + 1 := by simp
    have vg : ∀ i, i < t.h.length + t.c.length + 1 → ((List.range (t.h.length + t.c.length + 1)).map F).getD i 0 = F i := fun i hi => by rw [RW.getD_lt (by simpa using hi)]; simp
    generalize (List.range (t.h.length + t.c.length + 1)).map F = vals at h3 vl vg
    have h3' := (Ge.new (T := tbs K) (o := .lst []) hD).lst h3
    refine ⟨_, _, _, rfl, ?_⟩
    refine ⟨_, rfl, _, rfl, l3, _, _, _, rfl, rfl, .of h3', atID (by omega), ?_⟩
    rw [vg _ (by omega), eC, egn]
    refine ⟨_, rfl, _, _, rfl, rfl, _, _, rfl, rfl, (C : Int) + gn + 1, rfl, by omega, by omega, ?_⟩
    rw [show ((C : Int) + gn + 1).toNat = C + gn + 1 by omega]
    have wl : ∀ c, c ≤ C + gn → w c ≤ t.h.length + t.c.length := fun c hc => hw.le (by omega)
    refine for_any (n := C + gn + 1) (fun i σ H4 => Gr K H3 H4 ∧ H4 l3 = some (.lst (vals.map V.int)) ∧ (∃ (pl : Nat) (j7 : Option V), σ = [some (.ref p), some (.int t.h.length), some (.int t.c.length), some (.int gn), some (.ref l3), some (.ref D), some (.int pl), j7] ∧ ∀ c, i ≤ c → pl ≤ w c) ∧ H4 D = some (.lst (((List.range i).map fun c => (w c : Int)).map V.int)))
      ⟨Ge.new hD, h3', ⟨0, none, rfl, fun c _ => Nat.zero_le _⟩, upd_same⟩ (fun i σ H2 hi h => hi) (fun σ H2 h => Nat.le_refl _) (fun i x σ H4 H5 hi h hy => ?_) (fun σ H4 h => ?_)
    · obtain ⟨g4, hv, ⟨pl, j7, rfl, hpl⟩, hd⟩ := h
      obtain ⟨rfl, rfl⟩ := hy
      rw [Int.zero_add]
      refine ⟨fun m σ H' => H' = H5 ∧ ∃ pl : Nat, σ = [some (.ref p), some (.int t.h.length), some (.int t.c.length), some (.int gn), some (.ref l3), some (.ref D), some (.int pl), some (.int i)] ∧ pl ≤ w i ∧ m = w i - pl,
        ⟨_, rfl, pl, rfl, hpl i (Nat.le_refl _), rfl⟩, fun m σ H' hW => ?_⟩
      obtain ⟨rfl, pl, rfl, hple, rfl⟩ := hW
      have wi := wl i (by omega)
      refine ⟨_, rfl, _, rfl, l3, _, _, _, rfl, rfl, .of hv, atID (i := pl) (by omega), ?_⟩
      rw [vg _ (by omega)]
      refine ⟨_, rfl, _, _, rfl, rfl, _, rfl, iteD (fun e => ?_) (fun e => ?_)⟩
      · have lt : pl < w i := by
          apply Classical.byContradiction
          intro z
          have := (hw i).1
          rw [show w i = pl by omega] at this
          omega
        refine ⟨_, fun σ' H2 z => ⟨w i - (pl + 1), by omega, z⟩, ?_⟩
        exact ⟨_, rfl, _, _, rfl, rfl, rfl, pl + 1, rfl, by omega, rfl⟩
      · have eq : pl = w i := by
          apply Classical.byContradiction
          intro z
          have := (hw i).2 pl (by omega)
          omega
        refine ⟨_, rfl, .inl ⟨rfl, _, .of hd⟩, _, rfl, D, _, _, rfl, rfl, hd, by simp only [List.length_map, List.length_range]; exact sizedL (by omega), ?_⟩
        have g5 := g4.put (o' := .lst (((List.range i).map fun c => (w c : Int)).map V.int ++ [.int pl])) hD hd (by intro _ z; cases z) (by intro _ z; cases z)
        have nl : l3 ≠ D := ne_of_none h3 hD
        refine ⟨?_, by rw [upd_ne nl]; exact hv, ⟨pl, _, rfl, fun c hc => ?_⟩, ?_⟩
        · exact g5
        · rw [eq]
          have mw : ∀ k, w i ≤ w (i + k) := fun k => by
            induction k with
            | zero => exact Nat.le_refl _
            | succ k ih => exact Nat.le_trans ih (hw.step mono (i + k))
          have := mw (c - i)
          rw [show i + (c - i) = c by omega] at this
          exact this
        · rw [upd_same, eq, ← range_snoc, List.map_append]; rfl
    · obtain ⟨g4, hv, ⟨pl, j7, rfl, _⟩, hd⟩ := h
      refine ⟨_, rfl, _, rfl, _, rfl, l3, _, _, _, rfl, rfl, .of hv, atID (i := t.h.length) (by omega), ?_⟩
      rw [vg _ (by omega), eC]
      have hd' : H4 D = some (.lst ((List.range (C + 1 + gn)).map fun c => V.int (w c))) := by rw [hd, List.map_map, show C + gn + 1 = C + 1 + gn by omega]; rfl
      refine ⟨_, _, rfl, rfl, _, rfl, D, _, rfl, .of hd', fun l5 n5 => ?_⟩
      rw [show cutV ((List.range (C + 1 + gn)).map fun c => V.int (w c)) none (some ((C : Int) + 1)) = ((List.range (C + 1)).map fun c => (w c : Int)).map V.int by
        rw [show (C : Int) + 1 = ((C + 1 : Nat) : Int) by omega, cut_take (by simp), rng_take, List.map_map]; rfl]
      have g5 : Gr K H4 (upd H4 l5 (.lst (((List.range (C + 1)).map fun c => (w c : Int)).map V.int))) := Ge.new n5
      have h5 : upd H4 l5 (.lst (((List.range (C + 1)).map fun c => (w c : Int)).map V.int)) l5 = some (.lst (((List.range (C + 1)).map fun c => (w c : Int)).map V.int)) := upd_same
      generalize upd H4 l5 (.lst (((List.range (C + 1)).map fun c => (w c : Int)).map V.int)) = H5 at g5 h5 ⊢
      refine ⟨_, rfl, _, rfl, _, rfl, l3, _, _, _, rfl, rfl, .of (g5.lst hv), atID (i := t.h.length) (by omega), ?_⟩
      rw [vg _ (by omega), eC]
      refine ⟨_, _, rfl, rfl, _, rfl, D, _, rfl, .of (g5.lst hd'), fun l6 n6 => ?_⟩
      rw [show cutV ((List.range (C + 1 + gn)).map fun c => V.int (w c)) (some ((C : Int) + 1)) none = ((List.range gn).map fun c => (w (C + 1 + c) : Int)).map V.int by
        rw [show (C : Int) + 1 = ((C + 1 : Nat) : Int) by omega, cut_drop (by simp), rng_drop, List.map_map]; rfl]
      refine ⟨_, rfl, fun y dy ny nd ne => ?_⟩
      have g6 : Gr K H5 (upd H5 l6 (.lst (((List.range gn).map fun c => (w (C + 1 + c) : Int)).map V.int))) := Ge.new n6
      refine mkRow (.inl (g6.lst h5)) (.inl upd_same) (by simp; omega) (by simp; omega) (by simp; omega) (fun p H' g7 r7 => fin p H' w ((((gr3.trans g4).trans g5).trans g6).trans g7) hw (r7.congr fun n => RW.ev_rng (by omega) gw n)) y dy ny nd ne
end
end K17
set_option Elab.async false
set_option linter.all false
set_option maxRecDepth 100000
set_option maxHeartbeats 4000000
namespace K17
open PySem PySem.Spec PyProof.Rows L2 LamX NdefX
section
variable {P : Program} {w : World} {K : PySem.W.Frag} {mg : Str → Option Value} {base : Heap}
/-- a row's gain, when it grows -/
theorem gain_pos {t : RW.Tri} {f : Nat → Int} (ct : RW.Canon t) (et : ∀ n, RW.ev t n = f n) (h : WhenOk f) : 0 < t.g := by
  obtain ⟨M, N, G, hM, hG, hG0, _, _⟩ := h
  have gt := (RW.ev_gains ct.ne).congr et
  have cr := gt.cross hG
  have c0 := ct.ne
  apply Classical.byContradiction
  intro z
  have : (M : Int) * t.g ≤ M * 0 := Int.mul_le_mul_of_nonneg_left (by omega) (by omega)
  have : (0 : Int) < t.c.length * G := Int.mul_pos (by omega) hG0
  omega
theorem sc_when : FnScope ["row"] ["row"] (defScope (topS 59)) := ⟨rfl, rfl, rfl, by decide +kernel, rfl, by decide +kernel, by decide +kernel⟩
theorem ok_when (X : Txt K mg) : Ok P w K mg base CX0 7 "when" ["row"] (spWhenOf K) := by
  refine ok_def0 X 43 rfl sc_when (by decide +kernel) (fun vs H Q E h => ?_) (fun _ _ _ _ _ _ us hl => match us, hl with | [_], _ => rfl) (fun f cdv A outer s H vs Q E hr h => ?_)
  · obtain ⟨p, f, rfl, _⟩ := h; rfl
  · obtain ⟨p, F, rfl, r1, ri, wo, fin⟩ := h
    obtain ⟨t, dx, x1, y1, ct, et, ⟨zh, zc⟩, z1, he, hr'⟩ := r1.fields
    refine ⟨_, (pss_cons (ps_if (PW.pt (pw_or (pt_not (pt_val (pe_callB (isi_K (K := K)) (by rfl) X.b_isinstance (by decide +kernel) (pa_cons (pv 0) (pa_cons (pe_glob (v := .ref (rowC K)) (by rfl) (X.g "Row" (by decide +kernel)) rfl) pa_nil))))) (pw_or1 (pt_not (pt_val (pe_o (ok_is_counting X) hr pass0 (pa_cons (pv 0) pa_nil)))))))
  (pss_one ps_never)
  pss_nil)
  (pss_one (ps_ret (pe_o (ok_when_of X) hr pass0 (pa_cons (pv 0) pa_nil))))), ?_⟩
    refine ⟨_, rfl, _, _, _, _, true, rfl, .own _, tyRow X r1, X.rr, true, rfl, ?_⟩
    refine ⟨_, rfl, p, F, t, rfl, r1, ⟨dx, x1, y1, z1, he, hr'⟩, fun _ _ => ⟨true, rfl, ?_⟩, fun z => absurd ⟨ri, gain_pos ct et wo⟩ z⟩
    exact ⟨_, rfl, p, F, rfl, r1, ri, wo, fin⟩
theorem sc_last : FnScope ["row"] ["row"] (defScope (topS 60)) := ⟨rfl, rfl, rfl, by decide +kernel, rfl, by decide +kernel, by decide +kernel⟩
def spLastOf (K : PySem.W.Frag) : Sp := fun vs H Q _ => ∃ (p : Addr) (f : Nat → Int), vs = [.ref p] ∧ IsRow K H p f ∧ Rising f ∧ f 0 = 0 ∧ WhenOk f ∧ ∀ r H' w, Gr K H H' → RW.IsW f w → IsRow K H' r (fun c => (w (c + 1) : Int) - 1) → Q (.ref r) H'
theorem ok_last (X : Txt K mg) : Ok P w K mg base CX0 8 "last" ["row"] (spLastOf K) := by
  refine ok_def0 X 44 rfl sc_last (by decide +kernel) (fun vs H Q E h => ?_) (fun _ _ _ _ _ _ us hl => match us, hl with | [_], _ => rfl) (fun f cdv A outer s H vs Q E hr h => ?_)
  · obtain ⟨p, f, rfl, _⟩ := h; rfl
  · obtain ⟨p, F, rfl, r1, ri, f0, wo, fin⟩ := h
    obtain ⟨t, dx, x1, y1, ct, et, ⟨zh, zc⟩, z1, he, hr'⟩ := r1.fields
    refine ⟨_, (pss_cons (ps_if (PW.pt (pw_or (pt_not (pt_val (pe_callB (isi_K (K := K)) (by rfl) X.b_isinstance (by decide +kernel) (pa_cons (pv 0) (pa_cons (pe_glob (v := .ref (rowC K)) (by rfl) (X.g "Row" (by decide +kernel)) rfl) pa_nil))))) (pw_or (pt_not (pt_val (pe_o (ok_is_counting X) hr pass0 (pa_cons (pv 0) pa_nil)))) (pw_or1 (pt_cmpR op_ne (m1_K X (by decide +kernel) (ok_at X) hr pass0 (pv 0) (pa_cons pe_int pa_nil)) pe_int (nomark _))))))
  (pss_one ps_never)
  pss_nil)
  (pss_one (ps_ret (pe_o (ok_lifted X) hr pass0 (pa_cons (pe_o (ok_sooner X) hr pass0 (pa_cons (pe_o (ok_when_of X) hr pass0 (pa_cons (pv 0) pa_nil)) (pa_cons pe_int pa_nil))) (pa_cons (pe_un un_neg pe_int) pa_nil)))))), ?_⟩
    refine ⟨_, rfl, _, _, _, _, true, rfl, .own _, tyRow X r1, X.rr, true, rfl, ?_⟩
    refine ⟨_, rfl, p, F, t, rfl, r1, ⟨dx, x1, y1, z1, he, hr'⟩, fun _ _ => ⟨true, rfl, ?_⟩, fun z => absurd ⟨ri, gain_pos ct et wo⟩ z⟩
    refine ⟨_, rfl, p, dx, _, rfl, z1, rfl, p, F, 0, rfl, r1, by decide, ?_⟩
    rw [f0]
    refine ⟨rfl, _, rfl, ?_⟩
    refine ⟨_, rfl, p, F, rfl, r1, ri, wo, fun r2 H2 w g2 hw r2' => ?_⟩
    refine ⟨r2, _, 1, rfl, r2', by decide, fun r3 H3 g3 r3' => ?_⟩
    exact ⟨_, rfl, r3, _, -1, rfl, r3', fun r4 H4 g4 r4' => fin r4 H4 w ((g2.trans g3).trans g4) hw (r4'.congr fun n => by show ((w (1 + n) : Nat) : Int) + -1 = _; rw [Nat.add_comm 1 n]; omega)⟩
theorem sc_gap_up : FnScope ["one", "other"] ["one", "other"] (defScope (topS 61)) := ⟨rfl, rfl, rfl, by decide +kernel, rfl, by decide +kernel, by decide +kernel⟩
theorem ok_gap_up (X : Txt K mg) : Ok P w K mg base CX0 5 "gap_up" ["one", "other"] (spLead K) := by
  refine ok_def0 X 45 rfl sc_gap_up (by decide +kernel) (fun vs H Q E h => ?_) (fun _ _ _ _ _ _ us hl => match us, hl with | [_, _], _ => rfl) (fun f cdv A outer s H vs Q E hr h => ?_)
  · obtain ⟨p, q, f, g, rfl, _⟩ := h; rfl
  · obtain ⟨p, q, F, G, rfl, r1, r2, pok, fin⟩ := h
    refine ⟨_, (pss_cons (ps_expr (pe_o (ok_check_row X) hr pass0 (pa_cons (pv 0) pa_nil)))
  (pss_cons (ps_expr (pe_o (ok_check_row X) hr pass0 (pa_cons (pv 1) pa_nil)))
  (pss_one (ps_ret (pe_o (ok_greatest_lead X) hr pass0 (pa_cons (pv 0) (pa_cons (pv 1) pa_nil))))))), ?_⟩
    exact ⟨_, rfl, p, F, rfl, r1, _, rfl, q, G, rfl, r2, _, rfl, _, rfl, p, q, F, G, rfl, r1, r2, pok, fin⟩
theorem sc_first_with : FnScope ["row", "place", "number"] ["row", "place", "number"] (defScope (topS 62)) := ⟨rfl, rfl, rfl, by decide +kernel, rfl, by decide +kernel, by decide +kernel⟩
def spFirst (K : PySem.W.Frag) : Sp := fun vs H Q _ => ∃ (p : Addr) (f : Nat → Int) (k : Nat) (c : Int), vs = [.ref p, .int k, .int c] ∧ IsRow K H p f ∧ Mono f ∧ k < 2 ^ 50 ∧ ((∃ n, c ≤ f n) → ∃ n, k ≤ n ∧ c ≤ f n ∧ n < 2 ^ 50) ∧
  ((∀ n, f n < c) → ∀ H', Gr K H H' → Q .non H') ∧ ∀ H' n, Gr K H H' → k ≤ n → c ≤ f n → (∀ j, k ≤ j → j < n → f j < c) → Q (.int (n : Nat)) H'
theorem ok_first_with (X : Txt K mg) : Ok P w K mg base CX0 5 "first_with" ["row", "place", "number"] (spFirst K) := by
  refine ok_def0 X 46 rfl sc_first_with (by decide +kernel) (fun vs H Q E h => ?_) (fun _ _ _ _ _ _ us hl => match us, hl with | [_, _, _], _ => rfl) (fun f cdv A outer s H vs Q E hr h => ?_)
  · obtain ⟨p, f, k, c, rfl, _⟩ := h; rfl
  · obtain ⟨p, F, k, c, rfl, r1, mono, hk, hex, fin1, fin2⟩ := h
    obtain ⟨t, dx, x1, y1, ct, et, ⟨zh, zc⟩, z1, he, hr'⟩ := r1.fields
    have rest : ∃ t, PSs (cxOf CX0 P w K mg base ["row", "place", "number"] "first_with" (defScope (topS 62)) f cdv A outer s H E).nox ((defBody (topS 62)).drop 1) t ∧
        ∀ (H' : Hp) (n0 : Nat), Gr K H H' → k ≤ n0 → c ≤ F n0 → n0 < 2 ^ 50 → t { nx := fun _ H' => Q .non H', rt := Q } (L2.start ["row", "place", "number"] [.ref p, .int k, .int c]) H' := by
      refine ⟨_, (pss_cons (ps_while PassesOwn.never (pt_cmpR op_lt (m1_K X (by decide +kernel) (ok_at X) hr pass0 (pv 0) (pa_cons (pv 1) pa_nil)) (pv 2) (nomark _))
  (pss_one (ps_set (i := 1) sc_first_with.nd rfl (.inl rfl) (pe_op op_add (pv 1) pe_int))))
  (pss_one (ps_ret (pv 1)))), ?_⟩
      intro H' n0 gr hk0 hc0 hb0
      have z1' := gr.at z1
      refine ⟨fun m σ H2 => H2 = H' ∧ ∃ j : Nat, σ = [some (.ref p), some (.int j), some (.int c)] ∧ k ≤ j ∧ j ≤ n0 ∧ (∀ i, k ≤ i → i < j → F i < c) ∧ m = n0 - j, ⟨_, rfl, k, rfl, Nat.le_refl _, hk0, fun i h1 h2 => by omega, rfl⟩, fun m σ H2 hW => ?_⟩
      obtain ⟨rfl, j, rfl, hj1, hj2, hj, rfl⟩ := hW
      refine ⟨_, rfl, p, dx, _, rfl, z1', rfl, _, rfl, p, F, j, rfl, gr.row r1, by omega, ?_⟩
      refine ⟨_, rfl, _, _, rfl, rfl, _, rfl, iteD (fun e => ?_) (fun e => ?_)⟩
      · have lt : j < n0 := by
          apply Classical.byContradiction
          intro z
          rw [show n0 = j by omega] at hc0
          omega
        refine ⟨_, fun σ' H2 z => ⟨n0 - (j + 1), by omega, z⟩, ?_⟩
        exact ⟨_, rfl, _, _, rfl, rfl, rfl, j + 1, rfl, by omega, by omega, fun i h1 h2 => by
          by_cases z : i = j
          · subst z; exact e
          · exact hj i h1 (by omega), rfl⟩
      · exact ⟨_, rfl, fin2 H2 j gr hj1 (by omega) hj⟩
    obtain ⟨tr, htr, hrest⟩ := rest
    have gt := (RW.ev_gains ct.ne).congr et
    refine ⟨_, (pss_cons (ps_if (PW.pt (pw_and (pt_cmpR op_eq (m0_K X (by decide +kernel) (ok_gain X) hr pass0 (pv 0)) pe_int (nomark _)) (pw_and1 (pt_cmpR op_lt (m1_K X (by decide +kernel) (ok_at X) hr pass0 (pv 0) (pa_cons (pe_callB (len_K (K := K)) (by rfl) X.b_len (by decide +kernel) (pa_cons (m0_K X (by decide +kernel) (ok_head X) hr pass0 (pv 0)) pa_nil)) pa_nil)) (pv 2) (nomark _)))))
  (pss_one (ps_ret pe_non))
  pss_nil)
  htr), ?_⟩
    refine ⟨_, rfl, p, dx, _, rfl, z1, rfl, p, t, rfl, ⟨dx, x1, y1, z1, he, hr'⟩, ?_⟩
    refine ⟨rfl, _, rfl, iteD (fun e => ?_) (fun e => ?_)⟩
    · have g0 : t.g = 0 := V.int.inj e
      have top : ∀ n, F n ≤ F t.h.length := fun n => by
        rw [g0] at gt
        by_cases z : n ≤ t.h.length
        · exact mono.le z
        · have up : F n ≤ F (t.h.length + (n - t.h.length) * t.c.length) := mono.le (by
            have : (n - t.h.length) * 1 ≤ (n - t.h.length) * t.c.length := Nat.mul_le_mul_left _ ct.ne
            omega)
          rw [gt.many (n - t.h.length) (Nat.le_refl _)] at up
          simpa using up
      refine ⟨_, rfl, p, dx, _, rfl, z1, rfl, _, rfl, p, dx, _, rfl, z1, rfl, p, t, rfl, ⟨dx, x1, y1, z1, he, hr'⟩, fun H1 l1 g1 h1 => ?_⟩
      refine ⟨l1, _, rfl, .inl (.of h1), ?_⟩
      rw [List.length_map]
      refine ⟨p, F, t.h.length, rfl, g1.row r1, by omega, ?_⟩
      refine ⟨_, rfl, _, _, rfl, rfl, _, rfl, iteD (fun e2 => ?_) (fun e2 => ?_)⟩
      · exact fin1 (fun n => Int.lt_of_le_of_lt (top n) e2) H1 g1
      · obtain ⟨n0, a, b, c0⟩ := hex ⟨t.h.length, by omega⟩
        exact hrest H1 n0 g1 a b c0
    · have gp : 0 < t.g := by
        apply Classical.byContradiction
        intro z
        have a := mono.le (i := t.h.length) (j := t.h.length + t.c.length) (by omega)
        rw [gt _ (Nat.le_refl _)] at a
        exact e (congrArg V.int (by omega))
      obtain ⟨n0, a, b, c0⟩ := hex (RW.grows gt gp c)
      exact hrest H n0 (Ge.refl _) a b c0
end
end K17
set_option Elab.async false
set_option linter.all false
set_option maxRecDepth 100000
set_option pp.maxSteps 900
set_option maxHeartbeats 4000000
/-! defs called by keywords alone -/
namespace K17
open PySem PySem.Spec PyProof.Rows L2 LamX NdefX
structure OkK (P : Program) (w : World) (K : PySem.W.Frag) (mg : Str → Option Value) (base : Heap) (CX : CXT) (k : Nat) (x : Str) (ps ks : List Str) (g : List Value → List Value → List Value) (gV : List V → List V → List V) (sp : Sp) : Prop where
  ex : ∃ fd, FnOk P w K mg base CX k (He.ga K x) fd ps sp ∧ Binds K fd ps [] ∧ KBinds K fd ps ks g gV
  kp : PySem.W.keepIn K (.ref (He.ga K x)) = true
  gm : mg x = some (.ref (He.ga K x))
def swp {α : Type} : List α → List α → List α
  | [], [a, b] => [b, a]
  | _, _ => []
def keep2 {α : Type} : List α → List α → List α
  | [], [a, b] => [a, b]
  | _, _ => []
theorem swp_rel {vs : List V} {us : List Value} {zs : List V} {ws : List Value} (r : Vals vs us) (rz : Vals zs ws) : Vals (swp vs zs) (swp us ws) := by
  match vs, us, zs, ws, r, rz with
  | [], _, [], _, .nil, .nil => exact .nil
  | [], _, [a], _, .nil, .cons r1 .nil => exact .nil
  | [], _, [a, b], _, .nil, .cons r1 (.cons r2 .nil) => exact .cons r2 (.cons r1 .nil)
  | [], _, _ :: _ :: _ :: _, _, .nil, .cons r1 (.cons r2 (.cons _ _)) => exact .nil
  | _ :: _, _, _, _, .cons _ _, _ => exact .nil
theorem keep2_rel {vs : List V} {us : List Value} {zs : List V} {ws : List Value} (r : Vals vs us) (rz : Vals zs ws) : Vals (keep2 vs zs) (keep2 us ws) := by
  match vs, us, zs, ws, r, rz with
  | [], _, [], _, .nil, .nil => exact .nil
  | [], _, [a], _, .nil, .cons r1 .nil => exact .nil
  | [], _, [a, b], _, .nil, .cons r1 (.cons r2 .nil) => exact .cons r1 (.cons r2 .nil)
  | [], _, _ :: _ :: _ :: _, _, .nil, .cons r1 (.cons r2 (.cons _ _)) => exact .nil
  | _ :: _, _, _, _, .cons _ _, _ => exact .nil
section
variable {P : Program} {w : World} {K : PySem.W.Frag} {mg : Str → Option Value} {base : Heap} {k : Nat} {x : Str} {N ps ks : List Str} {sp : Sp} {st : Stmt} {g : List Value → List Value → List Value} {gV : List V → List V → List V}
theorem OkK.ok {CX : CXT} (O : OkK P w K mg base CX k x ps ks g gV sp) : Ok P w K mg base CX k x ps sp := by
  obtain ⟨⟨fd, F, b, _⟩, kp, gm⟩ := O
  exact ⟨⟨fd, F, b⟩, kp, gm⟩
theorem ok_def0K (X : Txt K mg) (i : Nat) (hi : fn[i]? = some (dOf (x, none) x x st)) (S : FnScope N ps (defScope st)) (hx : x ∈ gN ++ clN) (len : ∀ vs H Q E, sp vs H Q E → vs.length = ps.length)
    (hb : ∀ (kV doc pm : Value) (an : Option Addr) (cdv ct : Value) (us : List Value), us.length = ps.length → bindArgs (PySem.W.fnOf x x (defArgs st) (defBody st) (defScope st) .none kV doc pm an cdv ct) ⟨us, []⟩ = pure (ps.zip us))
    (hbk : ∀ (kV doc pm : Value) (an : Option Addr) (cdv ct : Value) (us ws : List Value), (g us ws).length = ps.length → bindArgs (PySem.W.fnOf x x (defArgs st) (defBody st) (defScope st) .none kV doc pm an cdv ct) ⟨us, ks.zip ws⟩ = pure (ps.zip (g us ws)))
    (hrel : ∀ {vs : List V} {us : List Value} {zs : List V} {ws : List Value}, Vals vs us → Vals zs ws → Vals (gV vs zs) (g us ws))
    (hbody : ∀ (f : Addr) (cdv : Value) (A : Around) (outer : List Env) (s : Shared) (H : Hp) (vs : List V) (Q : VK) (E : XK), Room k (A.deeper (envOfC x (defScope st) s.heap.objs.size f cdv)) → sp vs H Q E →
      ∃ t, PSs (cxOf CX0 P w K mg base N x (defScope st) f cdv A outer s H E).nox (defBody st) t ∧ t { nx := fun _ H' => Q .non H', rt := Q } (start N vs) H) : OkK P w K mg base CX0 (k + 1) x ps ks g gV sp := by
  obtain ⟨fd, F⟩ := X.d i _ hi
  refine ⟨⟨fd, FunD.ok F S len (fun cdv A outer s H vs Q E hr h => by
    obtain ⟨t, h1, h2⟩ := hbody _ cdv A outer s H vs Q E hr h
    exact ⟨t, h1.nox, h2⟩), FunD.bindsN F hb, ⟨fun s us ws _ hl => ?_, hrel⟩⟩, F.kp, X.g x hx⟩
  obtain ⟨oc, od, dV, kV, doc, pm, an, cdv, ct, osl, rfl, lk, hcd, hD, hK⟩ := F.ex
  rcases hD with ⟨_, rfl⟩ | ⟨e, _⟩
  · exact .of_eq (hbk kV doc pm an cdv ct us ws hl)
  · exact absurd rfl e
end
section
variable {X : Cx} {CX : CXT} {j k : Nat} {ps ks : List Str} {sp : Sp} {x : Str} {E : XK} {kws : List Keyword} {tk : TA} {p pos : Pos} {g : List Value → List Value → List Value} {gV : List V → List V → List V}
theorem pe_kw0 (O : OkK X.prog X.w X.K X.mg X.base CX j x ps ks g gV sp) (hr : Room k X.A) (hx : Passes CX X E) (hkw : PK X kws tk) (hj : j ≤ k := by decide) (hg : Gl X x := by rfl) (hdb : (x == ("__debug__" : Str)) = false := by decide)
    (hall : (backToKw pos (keywordEach kws X.env)).all (·.1.isSome) = true := by rfl) (hks : (backToKw pos (keywordEach kws X.env)).filterMap (·.1) = ks := by rfl)
    (hpl : ((backTo pos (starEach [] X.env)).any (·.1) || (backToKw pos (keywordEach kws X.env)).any (·.1.isNone)) = false := by rfl) : PE X (.Call (.Name x p) [] kws pos) (tCallK sp gV E tNil tk) := by
  obtain ⟨⟨fd, F, b, kb⟩, kp, gm⟩ := O
  refine ⟨fun pins s σ H Q I h => ?_⟩
  refine wpAny_Call_Name_kw (ld_glob I hg gm ?_ hdb)
  refine PySem.W.callWith_KW0 (h₀ := X.base) I.ok.mod.kin kp hall (thn (hkw.run pos pins s σ H _ I h) fun ws s2 ⟨zs, H2, I2, rz, q2⟩ => ⟨I2.kIn, ?_⟩) hpl
  rw [hks]
  exact run_fnk F (hr.mono hj) kb hx I2 .nil rz q2
end
section
variable {P : Program} {w : World} {K : PySem.W.Frag} {mg : Str → Option Value} {base : Heap}
theorem okK_gap_up (X : Txt K mg) : OkK P w K mg base CX0 5 "gap_up" ["one", "other"] ["other", "one"] swp swp (spLead K) := by
  refine ok_def0K X 45 rfl sc_gap_up (by decide +kernel) (fun vs H Q E h => ?_) (fun _ _ _ _ _ _ us hl => match us, hl with | [_, _], _ => rfl) (fun _ _ _ _ _ _ us ws hl => match us, ws, hl with | [], [_, _], _ => rfl) swp_rel (fun f cdv A outer s H vs Q E hr h => ?_)
  · obtain ⟨p, q, f, g, rfl, _⟩ := h; rfl
  · obtain ⟨p, q, F, G, rfl, r1, r2, pok, fin⟩ := h
    refine ⟨_, (pss_cons (ps_expr (pe_o (ok_check_row X) hr pass0 (pa_cons (pv 0) pa_nil)))
  (pss_cons (ps_expr (pe_o (ok_check_row X) hr pass0 (pa_cons (pv 1) pa_nil)))
  (pss_one (ps_ret (pe_o (ok_greatest_lead X) hr pass0 (pa_cons (pv 0) (pa_cons (pv 1) pa_nil))))))), ?_⟩
    exact ⟨_, rfl, p, F, rfl, r1, _, rfl, q, G, rfl, r2, _, rfl, _, rfl, p, q, F, G, rfl, r1, r2, pok, fin⟩
end
end K17
set_option linter.all false
/-! Rows' mathematics, E: gaps across. -/
namespace RW
/-- the least delay at which g, so much later, is nowhere below f -/
def GapIs (f g : Nat → Int) : Option Nat → Prop
  | some d => (∀ n, f n ≤ g (n + d)) ∧ ∀ d', d' < d → ∃ n, g (n + d') < f n
  | none => ∀ d, ∃ n, g (n + d) < f n
theorem GapIs.uniq {f g : Nat → Int} : ∀ {a b : Option Nat}, GapIs f g a → GapIs f g b → a = b
  | none, none, _, _ => rfl
  | none, some d, h, k => by
    obtain ⟨n, hn⟩ := h d
    have := k.1 n
    omega
  | some d, none, h, k => by
    obtain ⟨n, hn⟩ := k d
    have := h.1 n
    omega
  | some a, some b, h, k => by
    rcases Nat.lt_trichotomy a b with z | z | z
    · obtain ⟨n, hn⟩ := k.2 a z
      have := h.1 n
      omega
    · rw [z]
    · obtain ⟨n, hn⟩ := h.2 b z
      have := k.1 n
      omega
theorem gap_when {f g : Nat → Int} {wf wg : Nat → Nat} (hf : IsW f wf) (hg : IsW g wg) (mf : Mono f) (mg : Mono g) (f0 : 0 ≤ f 0) {m : Int} (h1 : ∃ c, m = (wg c : Int) - wf c) (h2 : ∀ c, (wg c : Int) - wf c ≤ m) : GapIs f g (some (max 0 m).toNat) := by
  refine ⟨fun n => ?_, fun d' hd => ?_⟩
  · have fn : 0 ≤ f n := Int.le_trans f0 (mf.le (Nat.zero_le n))
    obtain ⟨c, ec⟩ : ∃ c : Nat, f n = c := ⟨(f n).toNat, by omega⟩
    have a := hf.le (c := c) (n := n) (by omega)
    have b := h2 c
    have k := (hg c).1
    have := mg.le (i := wg c) (j := n + (max 0 m).toNat) (by omega)
    omega
  · obtain ⟨c, ec⟩ := h1
    refine ⟨wf c, ?_⟩
    have a := (hf c).1
    have b := (hg c).2 (wf c + d') (by omega)
    omega
theorem gap_when_none {f g : Nat → Int} {wf wg : Nat → Nat} (hf : IsW f wf) (hg : IsW g wg) (h : ∀ d : Nat, ∃ c, (wf c : Int) + d < wg c) : GapIs f g none := fun d => by
  obtain ⟨c, hc⟩ := h d
  refine ⟨wf c, ?_⟩
  have a := (hf c).1
  have b := (hg c).2 (wf c + d) (by omega)
  omega
/-- one row flat from N on -/
theorem gap_flat {f g : Nat → Int} {N : Nat} (mg : Mono g) (hf : ∀ n, N ≤ n → f n = f N) {d : Nat} (h1 : ∀ n, n ≤ N → f n ≤ g (n + d)) (h2 : ∀ d', d' < d → ∃ n, g (n + d') < f n) : GapIs f g (some d) :=
  ⟨fun n => by
    by_cases z : n ≤ N
    · exact h1 n z
    · rw [hf n (by omega)]
      exact Int.le_trans (h1 N (Nat.le_refl _)) (mg.le (by omega)), h2⟩
/-- f outgrows g -/
theorem faster_by {f g : Nat → Int} {M N : Nat} {G1 G2 : Int} (h1 : Gains f M G1 N) (h2 : Gains g M G2 N) (h : G2 < G1) (d : Int) : ∃ n, g n + d < f n := by
  have a := h1.many ((g N - f N + d).toNat + 1) (Nat.le_refl N)
  have b := h2.many ((g N - f N + d).toNat + 1) (Nat.le_refl N)
  refine ⟨N + ((g N - f N + d).toNat + 1) * M, ?_⟩
  rw [a, b]
  have c : (((g N - f N + d).toNat + 1 : Nat) : Int) * 1 ≤ (((g N - f N + d).toNat + 1 : Nat) : Int) * (G1 - G2) := Int.mul_le_mul_of_nonneg_left (by omega) (by omega)
  rw [Int.mul_sub] at c
  omega
theorem flat_from {f : Nat → Int} {M N : Nat} (hM : 0 < M) (m : Mono f) (h : Gains f M 0 N) (n : Nat) (hn : N ≤ n) : f n = f N := by
  have a := m.le hn
  have b := h.many (n - N) (Nat.le_refl N)
  have : (n - N) * 1 ≤ (n - N) * M := Nat.mul_le_mul_left _ hM
  have c := m.le (i := n) (j := N + (n - N) * M) (by omega)
  simp at b
  omega
end RW
set_option Elab.async false
set_option linter.all false
set_option maxRecDepth 100000
set_option maxHeartbeats 4000000
namespace K17
open PySem PySem.Spec PyProof.Rows L2 LamX NdefX
section
variable {P : Program} {w : World} {K : PySem.W.Frag} {mg : Str → Option Value} {base : Heap}
def GapOk (f g : Nat → Int) : Prop := ∃ (M N G1 G2 : Nat), 0 < M ∧ RW.Gains f M G1 N ∧ RW.Gains g M G2 N ∧ N + M ≤ 1000000 ∧ f N + G1 ≤ 1000000 ∧ g N + G2 ≤ 1000000 ∧ 2 * (G1 * G2) ≤ 4000000
def oV : Option Nat → V
  | some d => .int d
  | none => .non
theorem sc_gap_across : FnScope ["one", "other", "row", "found", "gaps", "place"] ["one", "other"] (defScope (topS 63)) := ⟨rfl, rfl, rfl, by decide +kernel, rfl, by decide +kernel, by decide +kernel⟩
def spGap (K : PySem.W.Frag) : Sp := fun vs H Q _ => ∃ (p q : Addr) (f g : Nat → Int), vs = [.ref p, .ref q] ∧ IsRow K H p f ∧ IsRow K H q g ∧ Rising f ∧ Rising g ∧ GapOk f g ∧ ∀ H' o, Gr K H H' → RW.GapIs f g o → Q (oV o) H'
theorem okK_gap_across (X : Txt K mg) : OkK P w K mg base CX0 7 "gap_across" ["one", "other"] ["one", "other"] keep2 keep2 (spGap K) := by
  refine ok_def0K X 47 rfl sc_gap_across (by decide +kernel) (fun vs H Q E h => ?_) (fun _ _ _ _ _ _ us hl => match us, hl with | [_, _], _ => rfl) (fun _ _ _ _ _ _ us ws hl => match us, ws, hl with | [], [_, _], _ => rfl) keep2_rel (fun f cdv A outer s H vs Q E hr h => ?_)
  · obtain ⟨p, q, f, g, rfl, _⟩ := h; rfl
  · obtain ⟨p, q, F, G, rfl, r1, r2, ⟨f0, mf⟩, ⟨g0, mg'⟩, gok, fin⟩ := h
    obtain ⟨t, dx1, x1, y1, ct, et, zt, z1, he1, hr1⟩ := r1.fields
    obtain ⟨u, dx2, x2, y2, cu, eu, zu, z2, he2, hr2⟩ := r2.fields
    have O1 : RowO K H p t := ⟨dx1, x1, y1, z1, he1, hr1⟩
    have O2 : RowO K H q u := ⟨dx2, x2, y2, z2, he2, hr2⟩
    refine ⟨_, (pss_cons (ps_for PassesOwn.never rfl (piT_K (K := K) (pe_tup (pa_cons (pv 0) (pa_cons (pv 1) pa_nil)))) (pg_name (i := 2) sc_gap_across.nd rfl (.inl rfl))
  (pss_one (ps_if (PW.pt (pw_or (pt_not (pt_val (pe_callB (isi_K (K := K)) (by rfl) X.b_isinstance (by decide +kernel) (pa_cons (pv 2) (pa_cons (pe_glob (v := .ref (rowC K)) (by rfl) (X.g "Row" (by decide +kernel)) rfl) pa_nil))))) (pw_or1 (pt_not (pt_val (pe_o (ok_is_rising X) hr pass0 (pa_cons (pv 2) pa_nil)))))))
  (pss_one ps_never)
  pss_nil)))
  (pss_cons (ps_if (PW.pt (pw_and (pt_cmpR op_gt (m0_K X (by decide +kernel) (ok_gain X) hr pass0 (pv 0)) pe_int (nomark _)) (pw_and1 (pt_cmpR op_gt (m0_K X (by decide +kernel) (ok_gain X) hr pass0 (pv 1)) pe_int (nomark _)))))
  (pss_cons (ps_set (i := 3) sc_gap_across.nd rfl (.inl rfl) (pe_o (ok_greatest_lead X) hr pass0 (pa_cons (pe_o (ok_when_of X) hr pass0 (pa_cons (pv 1) pa_nil)) (pa_cons (pe_o (ok_when_of X) hr pass0 (pa_cons (pv 0) pa_nil)) pa_nil))))
  (pss_one (ps_ret (pe_ifExp (pt_cmpR op_isN (pv 3) pe_non (nomark _)) pe_non (pe_callB (call_max2 rfl) (by rfl) X.b_max (by decide +kernel) (pa_cons pe_int (pa_cons (pv 3) pa_nil)))))))
  pss_nil)
  (pss_cons (ps_if (pt_cmpR op_gt (m0_K X (by decide +kernel) (ok_gain X) hr pass0 (pv 0)) pe_int (nomark _))
  (pss_one (ps_ret pe_non))
  pss_nil)
  (pss_cons (ps_set (i := 4) sc_gap_across.nd rfl (.inl rfl) (pe_lst pa_nil))
  (pss_cons (ps_for PassesOwn.never rfl (pi_range1 (by rfl) X.b_range (pa_cons (pe_op op_add (pe_callB (len_K (K := K)) (by rfl) X.b_len (by decide +kernel) (pa_cons (m0_K X (by decide +kernel) (ok_head X) hr pass0 (pv 0)) pa_nil)) pe_int) pa_nil)) (pg_name (i := 5) sc_gap_across.nd rfl (.inl rfl))
  (pss_cons (ps_set (i := 3) sc_gap_across.nd rfl (.inl rfl) (pe_o (ok_first_with X) hr pass0 (pa_cons (pv 1) (pa_cons (pv 5) (pa_cons (m1_K X (by decide +kernel) (ok_at X) hr pass0 (pv 0) (pa_cons (pv 5) pa_nil)) pa_nil)))))
  (pss_cons (ps_if (pt_cmpR op_isN (pv 3) pe_non (nomark _))
  (pss_one (ps_ret pe_non))
  pss_nil)
  (pss_one (ps_expr (bm_K (K := K) PySem.F.plainAttrs_list PySem.F.slot_list_append PySem.F.type_list_append mt_append (pv 4) (pa_cons (pe_op op_sub (pv 3) (pv 5)) pa_nil)))))))
  (pss_one (ps_ret (pe_callB (max_K (K := K)) (by rfl) X.b_max (by decide +kernel) (pa_cons (pv 4) pa_nil))))))))), ?_⟩
    obtain ⟨M, N, G1, G2, hM, hF, hG, hNM, hbf, hbg, hGG⟩ := gok
    have kt := hF.congr fun n => (et n).symm
    have ku := hG.congr fun n => (eu n).symm
    have ht := ct.head_le hM kt
    have hu' := cu.head_le hM ku
    have gt := (RW.ev_gains ct.ne).congr et
    have gu := (RW.ev_gains cu.ne).congr eu
    have ct0 := ct.ne
    have cu0 := cu.ne
    have crt := gt.cross hF
    have cru := gu.cross hG
    have t0 : 0 ≤ t.g := by
      have a := mf.le (i := t.h.length) (j := t.h.length + t.c.length) (by omega)
      rw [gt _ (Nat.le_refl _)] at a
      omega
    have u0 : 0 ≤ u.g := by
      have a := mg'.le (i := u.h.length) (j := u.h.length + u.c.length) (by omega)
      rw [gu _ (Nat.le_refl _)] at a
      omega
    have posG1 : 0 < t.g ↔ 0 < G1 := by
      constructor
      · intro z
        have : (0 : Int) < M * t.g := Int.mul_pos (by omega) z
        rw [crt] at this
        have := Int.pos_of_mul_pos_right this (by omega)
        omega
      · intro z
        have : (0 : Int) < t.c.length * (G1 : Int) := Int.mul_pos (by omega) (by omega)
        rw [← crt] at this
        exact Int.pos_of_mul_pos_right this (by omega)
    have posG2 : 0 < u.g ↔ 0 < G2 := by
      constructor
      · intro z
        have : (0 : Int) < M * u.g := Int.mul_pos (by omega) z
        rw [cru] at this
        have := Int.pos_of_mul_pos_right this (by omega)
        omega
      · intro z
        have : (0 : Int) < u.c.length * (G2 : Int) := Int.mul_pos (by omega) (by omega)
        rw [← cru] at this
        exact Int.pos_of_mul_pos_right this (by omega)
    refine ⟨_, rfl, _, rfl, by show 2 ≤ sizeLine; decide, fun tp ntp => ⟨tp, rfl, ⟨_, .of upd_same⟩, ?_⟩⟩
    have gp : Gr K H (upd H tp (.tup [.ref p, .ref q])) := Ge.new ntp
    refine for_tup (K := K) upd_same (fun i σ H' => H' = upd H tp (.tup [.ref p, .ref q]) ∧ ∃ j2, σ = [some (.ref p), some (.ref q), j2, none, none, none]) ⟨rfl, none, rfl⟩ (fun i σ H' h => by rw [h.1]; exact Ge.refl _) (fun i x σ H' hx h => ?_) (fun σ H' h => ?_)
    · obtain ⟨rfl, j2, rfl⟩ := h
      match i, hx with
      | 0, hx =>
        cases hx
        refine ⟨_, rfl, _, _, _, _, true, rfl, .own _, tyRow X (gp.row r1), X.rr, true, rfl, ?_⟩
        refine ⟨_, rfl, p, F, rfl, gp.row r1, fun _ => ⟨true, rfl, ?_⟩, fun z => absurd ⟨f0, mf⟩ z⟩
        exact ⟨rfl, _, rfl⟩
      | 1, hx =>
        cases hx
        refine ⟨_, rfl, _, _, _, _, true, rfl, .own _, tyRow X (gp.row r2), X.rr, true, rfl, ?_⟩
        refine ⟨_, rfl, q, G, rfl, gp.row r2, fun _ => ⟨true, rfl, ?_⟩, fun z => absurd ⟨g0, mg'⟩ z⟩
        exact ⟨rfl, _, rfl⟩
      | i + 2, hx => simp at hx
    · obtain ⟨rfl, j2, rfl⟩ := h
      generalize upd H tp (.tup [.ref p, .ref q]) = H1 at gp ⊢
      have v1 := gp.row r1
      have v2 := gp.row r2
      have w1 := gp.at z1
      have w2 := gp.at z2
      have P1 := gp.rowO O1
      have P2 := gp.rowO O2
      refine ⟨_, rfl, p, dx1, _, rfl, w1, rfl, p, t, rfl, P1, _, _, rfl, rfl, _, rfl, iteD (fun e1 => ?_) (fun e1 => ?_)⟩
      · refine ⟨_, rfl, q, dx2, _, rfl, w2, rfl, q, u, rfl, P2, _, _, rfl, rfl, _, rfl, iteD (fun e2 => ?_) (fun e2 => ?_)⟩
        · -- both grow
          have p1 := posG1.mp e1
          have p2 := posG2.mp e2
          have fN : 0 ≤ F N := Int.le_trans f0 (mf.le (Nat.zero_le N))
          have gN : 0 ≤ G N := Int.le_trans g0 (mg'.le (Nat.zero_le N))
          refine ⟨_, rfl, q, G, rfl, v2, ⟨g0, mg'⟩, ⟨M, N, G2, hM, hG, by omega, by omega, by omega⟩, fun r5 H5 wg g5 hwg r5' => ?_⟩
          refine ⟨_, rfl, p, F, rfl, g5.row v1, ⟨f0, mf⟩, ⟨M, N, G1, hM, hF, by omega, by omega, by omega⟩, fun r6 H6 wf g6 hwf r6' => ?_⟩
          obtain ⟨C, hC1, hC2, hC3⟩ : ∃ C : Nat, F N < C ∧ G N < C ∧ C ≤ 1000001 := ⟨(F N).toNat + (G N).toNat + 1 - min (F N).toNat (G N).toNat, by omega, by omega, by omega⟩
          have gwf := (hwf.gains mf hF hC1).mul G2
          have gwg := (hwg.gains mg' hG hC2).mul G1
          rw [Nat.mul_comm G2 G1] at gwf
          have PP : 0 < G1 * G2 := Nat.mul_pos p1 p2
          refine ⟨r5, r6, _, _, rfl, g6.row r5', r6', ⟨G1 * G2, C, _, _, PP, gwg, gwf, by omega⟩, fun fa H7 g7 => ?_, fun nf H7 m g7 su => ?_⟩
          · refine ⟨_, rfl, rfl, _, rfl, ?_⟩
            have lt := faster_uniq PP gwg gwf fa
            refine fin H7 none (((gp.trans g5).trans g6).trans g7) (RW.gap_when_none hwf hwg fun d => ?_)
            obtain ⟨c, hc⟩ := RW.faster_by gwg gwf lt (d : Int)
            exact ⟨c, hc⟩
          · refine ⟨_, rfl, rfl, _, rfl, ?_⟩
            have key := RW.gap_when hwf hwg mf mg' f0 su.1 su.2
            have := fin H7 _ (((gp.trans g5).trans g6).trans g7) key
            refine ⟨_, rfl, _, _, rfl, ?_⟩
            have ev : (if m > 0 then m else 0) = (((max 0 m).toNat : Nat) : Int) := by split <;> omega
            rw [ev]
            exact this
        · -- only the first grows
          refine ⟨_, rfl, p, dx1, _, rfl, w1, rfl, p, t, rfl, P1, _, _, rfl, rfl, _, rfl, iteDT e1 ?_⟩
          refine fin H1 none gp fun d => ?_
          have e2' : ¬ 0 < u.g := e2
          have sh : RW.Gains (fun n => G (d + n)) M G2 N := (hG.shift d).mono (by omega)
          obtain ⟨n, hn⟩ := RW.faster_by hF sh (by have := posG1.mp e1; have : ¬ 0 < G2 := fun z => e2' (posG2.mpr z); omega) 0
          exact ⟨n, by rw [Nat.add_comm n d]; omega⟩
      · have e1' : ¬ 0 < t.g := e1
        have tg : t.g = 0 := by omega
        rw [tg] at gt
        have flat := fun n hn => RW.flat_from ct0 mf gt n hn
        refine ⟨_, rfl, p, dx1, _, rfl, w1, rfl, p, t, rfl, P1, _, _, rfl, rfl, _, rfl, iteDF e1 ?_⟩
        refine ⟨by show 0 ≤ sizeLine; decide, fun D hD => ?_⟩
        have gD : Gr K H1 (upd H1 D (.lst [])) := Ge.new hD
        refine ⟨_, rfl, p, dx1, _, rfl, gD.at w1, rfl, p, t, rfl, gD.rowO P1, fun H2 l2 g2 h2 => ?_⟩
        refine ⟨l2, _, rfl, .inl (.of h2), ?_⟩
        rw [List.length_map]
        refine ⟨_, _, rfl, rfl, (t.h.length : Int) + 1, rfl, by omega, by omega, ?_⟩
        rw [show ((t.h.length : Int) + 1).toNat = t.h.length + 1 by omega]
        refine for_any (n := t.h.length + 1) (fun i σ H4 => Gr K H1 H4 ∧ (∃ j3 j5, σ = [some (.ref p), some (.ref q), j2, j3, some (.ref D), j5]) ∧ ∃ ns : List Int, H4 D = some (.lst (ns.map V.int)) ∧ ns.length = i ∧ ∀ j, j < i → ∃ d : Nat, ns[j]? = some (d : Int) ∧ F j ≤ G (j + d) ∧ ∀ d', d' < d → G (j + d') < F j)
          ⟨gD.trans g2, ⟨none, none, rfl⟩, [], g2.lst upd_same, rfl, fun j hj => by omega⟩ (fun i σ H2 hi h => hi) (fun σ H2 h => Nat.le_refl _) (fun i x σ H4 H5 hi h hy => ?_) (fun σ H4 h => ?_)
        · obtain ⟨g4, ⟨j3, j5, rfl⟩, ns, hd, hlen, hall⟩ := h
          obtain ⟨rfl, rfl⟩ := hy
          rw [Int.zero_add]
          have Fi : F i ≤ 1000000 := by
            have := mf.le (i := i) (j := N) (by omega)
            omega
          refine ⟨_, rfl, _, rfl, _, rfl, p, dx1, _, rfl, g4.at w1, rfl, _, rfl, p, F, i, rfl, g4.row v1, by omega, ?_⟩
          refine ⟨q, G, i, F i, rfl, g4.row v2, mg', by omega, fun ⟨n, hn⟩ => ?_, fun hno H6 g6 => ?_, fun H6 n g6 hn1 hn2 hn3 => ?_⟩
          · by_cases z : 0 < u.g
            · have z2 := posG2.mp z
              refine ⟨i + (N + (F i - G N).toNat * M), by omega, ?_, ?_⟩
              · have a := mg'.le (i := N + (F i - G N).toNat * M) (j := i + (N + (F i - G N).toNat * M)) (by omega)
                rw [hG.many _ (Nat.le_refl N)] at a
                have b : ((F i - G N).toNat : Int) * 1 ≤ ((F i - G N).toNat : Int) * (G2 : Int) := Int.mul_le_mul_of_nonneg_left (by omega) (by omega)
                omega
              · have gN : 0 ≤ G N := Int.le_trans g0 (mg'.le (Nat.zero_le N))
                have : (F i - G N).toNat * M ≤ 1000000 * 1000000 := Nat.mul_le_mul (by omega) (by omega)
                omega
            · have ug : u.g = 0 := by omega
              rw [ug] at gu
              have fl := RW.flat_from cu0 mg' gu
              refine ⟨i + u.h.length, by omega, ?_, by omega⟩
              rw [fl _ (by omega)]
              by_cases q : n ≤ u.h.length
              · exact Int.le_trans hn (mg'.le q)
              · rw [fl n (by omega)] at hn; exact hn
          · refine ⟨_, rfl, rfl, _, rfl, ?_⟩
            exact fin H6 none ((gp.trans g4).trans g6) fun d => ⟨i, hno _⟩
          · refine ⟨_, rfl, rfl, _, rfl, ?_⟩
            have hd6 := g6.lst hd
            refine ⟨_, rfl, .inl ⟨rfl, _, .of hd6⟩, _, rfl, _, rfl, _, _, rfl, rfl, D, _, _, rfl, rfl, hd6, by rw [List.length_map]; exact sizedL (by omega), ?_⟩
            refine ⟨(g4.trans g6).put hD hd6 (by intro _ z; cases z) (by intro _ z; cases z), ⟨_, _, rfl⟩, ns ++ [((n - i : Nat) : Int)], ?_, by simp [hlen], fun j hj => ?_⟩
            · rw [upd_same, List.map_append, show ((n - i : Nat) : Int) = (n : Int) - i by omega]; rfl
            · by_cases z : j < i
              · obtain ⟨d, a, b, c⟩ := hall j z
                exact ⟨d, by rw [List.getElem?_append_left (by omega)]; exact a, b, c⟩
              · have ej : j = i := by omega
                subst ej
                refine ⟨n - j, by rw [← hlen]; simp, by rw [show j + (n - j) = n by omega]; exact hn2, fun d' hd' => hn3 (j + d') (by omega) (by omega)⟩
        · obtain ⟨g4, ⟨j3, j5, rfl⟩, ns, hd, hlen, hall⟩ := h
          refine ⟨_, rfl, D, ns, rfl, .of hd, by omega, fun m hm hle => ?_⟩
          obtain ⟨j, hj⟩ := List.mem_iff_getElem?.mp hm
          have jl : j < ns.length := (List.getElem?_eq_some_iff.mp hj).1
          obtain ⟨d, a, b, c⟩ := hall j (by omega)
          rw [a] at hj
          have em : m = (d : Int) := (Option.some.inj hj).symm
          subst em
          refine fin H4 (some d) (gp.trans g4) (RW.gap_flat mg' flat (fun n hn => ?_) fun d' hd' => ⟨j, c d' hd'⟩)
          obtain ⟨dn, an, bn, cn⟩ := hall n (by omega)
          have := hle _ (List.mem_of_getElem? an)
          exact Int.le_trans bn (mg'.le (by omega))
theorem ok_gap_across (X : Txt K mg) : Ok P w K mg base CX0 7 "gap_across" ["one", "other"] (spGap K) := (okK_gap_across X).ok
end
end K17
set_option Elab.async false
set_option linter.all false
set_option maxRecDepth 100000
set_option maxHeartbeats 4000000
namespace K17
open PySem PySem.Spec PyProof.Rows L2 LamX NdefX
section
variable {P : Program} {w : World} {K : PySem.W.Frag} {mg : Str → Option Value} {base : Heap}
theorem sc_times : FnScope ["row", "integer", "values", "part", "value"] ["row", "integer"] (defScope (topS 37)) := ⟨rfl, rfl, rfl, by decide +kernel, rfl, by decide +kernel, by decide +kernel⟩
def spTimes (K : PySem.W.Frag) : Sp := fun vs H Q _ => ∃ (p : Addr) (f : Nat → Int) (i : Int), vs = [.ref p, .int i] ∧ IsRow K H p f ∧ (-1000 ≤ i ∧ i ≤ 1000) ∧ ∀ r H', Gr K H H' → IsRow K H' r (fun n => f n * i) → Q (.ref r) H'
theorem ok_times (X : Txt K mg) : Ok P w K mg base CX0 6 "times" ["row", "integer"] (spTimes K) := by
  refine ok_def0 X 23 rfl sc_times (by decide +kernel) (fun vs H Q E h => ?_) (fun _ _ _ _ _ _ us hl => match us, hl with | [_, _], _ => rfl) (fun f cdv A outer s H vs Q E hr h => ?_)
  · obtain ⟨p, t, m, rfl, _⟩ := h; rfl
  · obtain ⟨x, F, i, rfl, hR, ⟨hi1, hi2⟩, q⟩ := h
    obtain ⟨t, dx, e, r, ct, et, ⟨zh, zc⟩, hx, he, hr'⟩ := hR.fields
    refine ⟨_, (pss_cons (ps_expr (pe_o (ok_check_row X) hr pass0 (pa_cons (pv 0) pa_nil)))
  (pss_cons (ps_expr (pe_o (ok_check_integer X) hr pass0 (pa_cons (pv 1) pa_nil)))
  (pss_cons (ps_setLc (i := 2) (own := [("part", 3)]) (g := (gName 3)) (tt := tYes) rfl sc_times.nd rfl rfl (sw_true rfl rfl rfl (by decide +kernel)) (piT_K (K := K) (pe_tup (pa_cons (fld_K (K := K) (pv 0)) (pa_cons (fld_K (K := K) (pv 0)) pa_nil)))) (blkOk_by (N := ["row", "integer", "values", "part", "value"]) (sc := defScope (topS 37)) (by decide +kernel)) (fun _ _ _ _ _ => (pg_name (i := 3) sc_times.nd rfl (.inl rfl))) (fun _ _ _ _ _ => pts_nil) (fun _ _ _ _ _ => (pe_lc (own := [("value", 4)]) (g := (gName 4)) (tt := tYes) rfl sc_times.nd (piT_K (K := K) (pv 3)) (blkOk_by (N := ["row", "integer", "values", "part", "value"]) (by kernel_rfl)) (fun _ _ _ _ _ => (pg_name (i := 4) sc_times.nd rfl (.inl rfl))) (fun _ _ _ _ _ => pts_nil) (fun _ _ _ _ _ => (pe_op op_mul (pv 4) (pv 1))))))
  (pss_one (ps_ret (row_K X (ok_init X) hr pass0 (pa_cons (pe_ix (ixL_K (K := K)) (pv 2) pe_int (fun _ _ => rfl)) (pa_cons (pe_ix (ixL_K (K := K)) (pv 2) pe_int (fun _ _ => rfl)) (pa_cons (pe_op op_mul (fld_K (K := K) (pv 0)) (pv 1)) pa_nil))))))))), ?_⟩
    refine ⟨_, rfl, x, F, rfl, hR, _, rfl, i, rfl, ?_⟩
    refine ⟨_, rfl, x, _, dx, _, _, rfl, hx, X.cls, X.at1, rfl, ?_⟩
    refine ⟨_, rfl, x, _, dx, _, _, rfl, hx, X.cls, X.at2, rfl, by show 2 ≤ sizeLine; decide, fun tp ntp => ?_⟩
    have gp : Gr K H (upd H tp (.tup [.ref e, .ref r])) := Ge.new ntp
    have htp : upd H tp (.tup [.ref e, .ref r]) tp = some (.tup [.ref e, .ref r]) := upd_same
    generalize upd H tp (.tup [.ref e, .ref r]) = H1 at gp htp ⊢
    refine ⟨tp, rfl, ⟨_, .of htp⟩, fun D hD => ?_⟩
    refine lc_any (n := 2) (fun j H' => Gr K H1 H' ∧ ∃ ls : List Addr, H' D = some (.lst (ls.map V.ref)) ∧ ls.length = j ∧ ∀ k l, ls[k]? = some l → H' l = some (.lst (((if k = 0 then t.h else t.c).map fun v => v * i).map V.int)))
      ⟨Ge.new hD, [], upd_same, rfl, fun k l h => by simp at h⟩ (fun j H' hj h => ⟨[.ref e, .ref r], ([V.ref e, V.ref r].getD j .non), .of (h.1.tup htp), by
        match j, hj with
        | 0, _ => rfl
        | 1, _ => rfl⟩) (fun H' h => ⟨_, .of (h.1.tup htp), Nat.le_refl _⟩) (fun j y H' H'' hj h hy => ?_) (fun H' h => ?_)
    · obtain ⟨gr, ls, hd, hlen, hls⟩ := h
      obtain ⟨rfl, hy⟩ := hy
      have hy := hy _ (.of (gr.tup htp))
      have step : ∀ (a : Addr) (ns : List Int), y = V.ref a → H'' a = some (.tup (ns.map V.int)) → ns.length ≤ 8000000 → ns = (if j = 0 then t.h else t.c) → ∃ b : Addr, y = V.ref b ∧ ∃ ns : List Int, H'' b = some (.tup (ns.map V.int)) ∧ ns.length ≤ 8000000 ∧ ns = (if j = 0 then t.h else t.c) := fun a ns h1 h2 h3 h4 => ⟨a, h1, ns, h2, h3, h4⟩
      obtain ⟨b, rfl, ns, hb, hn, en⟩ : ∃ b : Addr, y = V.ref b ∧ ∃ ns : List Int, H'' b = some (.tup (ns.map V.int)) ∧ ns.length ≤ 8000000 ∧ ns = (if j = 0 then t.h else t.c) := by
        match j, hj, hy with
        | 0, _, hy => cases hy; exact ⟨e, rfl, t.h, (gp.trans gr).tup he, zh, rfl⟩
        | 1, _, hy => cases hy; exact ⟨r, rfl, t.c, (gp.trans gr).tup hr', zc, rfl⟩
      refine ⟨rfl, ?_⟩
      refine ⟨_, rfl, b, rfl, ⟨_, .of hb⟩, fun D2 hD2 => ?_⟩
      refine lc_tpi (K := K) (fun v => v * i) hD2 hb (by omega) (fun v H4 Q4 hv g4 q4 => ?_) (fun H4 g4 h4 => ?_)
      · exact ⟨rfl, _, rfl, _, rfl, _, _, rfl, rfl, .inr ⟨by omega, by omega⟩, q4 _ (Ge.refl _)⟩
      have hd4 := g4.lst hd
      have nD : D2 ≠ D := fun z => by rw [z, hd] at hD2; cases hD2
      refine ⟨_, hd4, by rw [List.length_map]; exact sizedL (by omega), (gr.trans g4).put hD hd4 (by intro _ z; cases z) (by intro _ z; cases z), ls ++ [D2], by rw [upd_same, List.map_append]; rfl, by simp [hlen], fun k l hk => ?_⟩
      by_cases z : k < ls.length
      · rw [List.getElem?_append_left z] at hk
        have a := g4.lst (hls k l hk)
        have nl : l ≠ D := fun z2 => by
          have := hls k l hk
          rw [z2, hd] at this
          have := HO.lst.inj (Option.some.inj this)
          cases ls with
          | nil => simp at z
          | cons l0 rest =>
            cases hq : ((if k = 0 then t.h else t.c).map fun v => v * i) with
            | nil => rw [hq] at this; cases this
            | cons _ _ => rw [hq] at this; injection this with h1 _; cases h1
        rw [upd_ne nl]; exact a
      · have hk1 : k = ls.length := by
          have := (List.getElem?_eq_some_iff.mp hk).1
          simp at this
          omega
        subst hk1
        rw [List.getElem?_append_right (Nat.le_refl _)] at hk
        simp at hk
        subst hk
        rw [upd_ne nD, h4, en, hlen]
    · obtain ⟨gr, ls, hd, hlen, hls⟩ := h
      match ls, hlen, hls, hd with
      | [l1, l2], _, hls, hd =>
        have a1 := hls 0 l1 rfl
        have a2 := hls 1 l2 rfl
        rw [if_pos rfl] at a1
        rw [if_neg (by decide)] at a2
        have gr1 := gp.trans gr
        refine ⟨_, rfl, D, _, _, _, rfl, rfl, .of hd, atI_eq (j := 0) rfl rfl, ?_⟩
        refine ⟨_, rfl, D, _, _, _, rfl, rfl, .of hd, atI_eq (j := 1) rfl rfl, ?_⟩
        refine ⟨_, rfl, x, _, dx, _, _, rfl, gr1.at hx, X.cls, X.at3, rfl, _, rfl, _, _, rfl, rfl, .inr ⟨by omega, by omega⟩, fun y dy ny nd ne => ?_⟩
        refine mkRow (.inl a1) (.inl a2) (by simpa using ct.ne) (by simpa using zc) (by simpa using zh) (fun p H' g7 r7 => q p H' (gr1.trans g7) (r7.congr fun n => ?_)) y dy ny nd ne
        rw [RW.ev_map (φ := fun v => v * i) ct.ne (fun x k => by rw [Int.add_mul, Int.mul_assoc, Int.mul_comm (k : Int) i, ← Int.mul_assoc]), et]
end
end K17
set_option linter.all false
/-! Rows' mathematics, F: the least mean. -/
namespace RW
theorem mean_all {f : Nat → Int} {c h k : Nat} {g : Int} (hc : 0 < c) (hg : Gains f c g h) (hk : f k * c ≤ g * k) (hl : ∀ n : Nat, 1 ≤ n → n ≤ h + c → f k * n ≤ f n * k) (n : Nat) (hn : 1 ≤ n) : f k * n ≤ f n * k := by
  induction n using Nat.strongRecOn with
  | _ n ih =>
    by_cases z : n ≤ h + c
    · exact hl n hn z
    · have a := hg (n - c) (by omega)
      rw [show n - c + c = n by omega] at a
      have b := ih (n - c) (by omega) (by omega)
      rw [a, Int.add_mul]
      have e : f k * (n : Int) = f k * ((n - c : Nat) : Int) + f k * c := by
        rw [← Int.mul_add]
        congr 1
        omega
      omega
theorem mean_none {f : Nat → Int} {c h k : Nat} {g : Int} (hc : 0 < c) (hg : Gains f c g h) (k0 : 1 ≤ k) (hk : g * k < f k * c) (hl : ∀ n : Nat, 1 ≤ n → n ≤ h + c → f k * n ≤ f n * k) (n : Nat) (hn : 1 ≤ n) : g * n < f n * c := by
  induction n using Nat.strongRecOn with
  | _ n ih =>
    by_cases z : n ≤ h + c
    · have a := hl n hn z
      have b : f k * n * c ≤ f n * k * c := Int.mul_le_mul_of_nonneg_right a (by omega)
      have d : (n : Int) * (g * k) < n * (f k * c) := Int.mul_lt_mul_of_pos_left hk (by omega)
      have e1 : f k * n * c = n * (f k * c) := by rw [Int.mul_comm (f k), Int.mul_assoc]
      have e2 : f n * k * c = k * (f n * c) := by rw [Int.mul_comm (f n), Int.mul_assoc]
      have e3 : (n : Int) * (g * k) = k * (g * n) := by rw [Int.mul_comm, Int.mul_comm g, Int.mul_assoc]
      have : (k : Int) * (g * n) < k * (f n * c) := by omega
      exact Int.lt_of_mul_lt_mul_left this (by omega)
    · have a := hg (n - c) (by omega)
      rw [show n - c + c = n by omega] at a
      have b := ih (n - c) (by omega) (by omega)
      rw [a, Int.add_mul]
      have e : g * (n : Int) = g * ((n - c : Nat) : Int) + g * c := by
        rw [← Int.mul_add]
        congr 1
        omega
      omega
end RW
set_option Elab.async false
set_option linter.all false
set_option maxRecDepth 100000
set_option maxHeartbeats 4000000
namespace K17
open PySem PySem.Spec PyProof.Rows L2 LamX NdefX
section
variable {P : Program} {w : World} {K : PySem.W.Frag} {mg : Str → Option Value} {base : Heap}
theorem sc_mean_of : FnScope ["row", "values", "place", "n", "rate"] ["row"] (defScope (topS 65)) := ⟨rfl, rfl, rfl, by decide +kernel, rfl, by decide +kernel, by decide +kernel⟩
def spMean (K : PySem.W.Frag) : Sp := fun vs H Q _ => ∃ (p : Addr) (f : Nat → Int) (t : RW.Tri), vs = [.ref p] ∧ IsRow K H p f ∧ RowO K H p t ∧ RW.Canon t ∧ (∀ n, RW.ev t n = f n) ∧ t.h.length ≤ 4000000 ∧ t.c.length ≤ 4000000 ∧
  (∀ H' u rt, Gr K H H' → H' u = some (.tup [.ref rt, .non]) → (∀ n : Nat, 1 ≤ n → t.g * n < f n * t.c.length) → Q (.ref u) H') ∧
  (∀ H' u rt (k : Nat), Gr K H H' → H' u = some (.tup [.ref rt, .int k]) → 1 ≤ k → k ≤ t.h.length + t.c.length → (∀ n : Nat, 1 ≤ n → f k * n ≤ f n * k) → Q (.ref u) H')
theorem ok_mean_of (X : Txt K mg) : Ok P w K mg base CX0 6 "mean_of" ["row"] (spMean K) := by
  refine ok_def0 X 48 rfl sc_mean_of (by decide +kernel) (fun vs H Q E h => ?_) (fun _ _ _ _ _ _ us hl => match us, hl with | [_], _ => rfl) (fun f cdv A outer s H vs Q E hr h => ?_)
  · obtain ⟨p, f, t, rfl, _⟩ := h; rfl
  · obtain ⟨p, F, t, rfl, r1, O1, ct, et, zh, zc, fin1, fin2⟩ := h
    refine ⟨_, (pss_cons (ps_set (i := 1) sc_mean_of.nd rfl (.inl rfl) (m1_K X (by decide +kernel) (ok_upto X) hr pass0 (pv 0) (pa_cons (pe_op op_add (pe_op op_add (pe_callB (len_K (K := K)) (by rfl) X.b_len (by decide +kernel) (pa_cons (m0_K X (by decide +kernel) (ok_head X) hr pass0 (pv 0)) pa_nil)) (pe_callB (len_K (K := K)) (by rfl) X.b_len (by decide +kernel) (pa_cons (m0_K X (by decide +kernel) (ok_cycle X) hr pass0 (pv 0)) pa_nil))) pe_int) pa_nil)))
  (pss_cons (ps_set (i := 2) sc_mean_of.nd rfl (.inl rfl) pe_int)
  (pss_cons (ps_for PassesOwn.never rfl (pi_range2 (by rfl) X.b_range (pa_cons pe_int (pa_cons (pe_callB (len_K (K := K)) (by rfl) X.b_len (by decide +kernel) (pa_cons (pv 1) pa_nil)) pa_nil))) (pg_name (i := 3) sc_mean_of.nd rfl (.inl rfl))
  (pss_one (ps_if (pt_cmpR op_lt (pe_op op_mul (pe_ix (ixL_K (K := K)) (pv 1) (pv 3) (fun _ _ => rfl)) (pv 2)) (pe_op op_mul (pe_ix (ixL_K (K := K)) (pv 1) (pv 2) (fun _ _ => rfl)) (pv 3)) (nomark _))
  (pss_one (ps_set (i := 2) sc_mean_of.nd rfl (.inl rfl) (pv 3)))
  pss_nil)))
  (pss_cons (ps_set (i := 4) sc_mean_of.nd rfl (.inl rfl) (m0_K X (by decide +kernel) (ok_rate X) hr pass0 (pv 0)))
  (pss_cons (ps_if (pt_cmpR op_gt (pe_op op_mul (pe_ix (ixL_K (K := K)) (pv 1) (pv 2) (fun _ _ => rfl)) (pe_ix (ixT_K (K := K)) (pv 4) pe_int (fun _ _ => rfl))) (pe_op op_mul (pe_ix (ixT_K (K := K)) (pv 4) pe_int (fun _ _ => rfl)) (pv 2)) (nomark _))
  (pss_one (ps_ret (pe_tup (pa_cons (pv 4) (pa_cons pe_non pa_nil)))))
  pss_nil)
  (pss_one (ps_ret (pe_tup (pa_cons (pe_o (ok_lowest X) hr pass0 (pa_cons (pe_ix (ixL_K (K := K)) (pv 1) (pv 2) (fun _ _ => rfl)) (pa_cons (pv 2) pa_nil))) (pa_cons (pv 2) pa_nil)))))))))), ?_⟩
    obtain ⟨dx, x1, y1, z1, he, hr'⟩ := O1
    have c0 := ct.ne
    have gt := (RW.ev_gains ct.ne).congr et
    refine ⟨_, rfl, p, dx, _, rfl, z1, rfl, _, rfl, p, dx, _, rfl, z1, rfl, p, t, rfl, ⟨dx, x1, y1, z1, he, hr'⟩, fun H1 l1 g1 h1 => ?_⟩
    refine ⟨l1, _, rfl, .inl (.of h1), ?_⟩
    rw [List.length_map]
    refine ⟨_, rfl, p, dx, _, rfl, g1.at z1, rfl, p, t, rfl, g1.rowO ⟨dx, x1, y1, z1, he, hr'⟩, fun H2 l2 g2 h2 => ?_⟩
    have gr2 := g1.trans g2
    refine ⟨l2, _, rfl, .inl (.of h2), ?_⟩
    rw [List.length_map]
    refine ⟨_, _, rfl, rfl, _, _, rfl, rfl, p, F, t.h.length + t.c.length + 1, rfl, gr2.row r1, by omega, fun H3 l3 g3 n3 h3 => ?_⟩
    have gr3 := gr2.trans g3
    have vl : ((List.range (t.h.length + t.c.length + 1)).map F).length = t.h.length + t.c.length + 1 := by simp
    have vg : ∀ i, i < t.h.length + t.c.length + 1 → ((List.range (t.h.length + t.c.length + 1)).map F).getD i 0 = F i := fun i hi => by rw [RW.getD_lt (by simpa using hi)]; simp
    generalize (List.range (t.h.length + t.c.length + 1)).map F = vals at h3 vl vg
    refine ⟨_, rfl, l3, _, rfl, .inl (.of h3), ?_⟩
    rw [List.length_map, vl]
    refine ⟨2, ((t.h.length + t.c.length + 1 : Nat) : Int), rfl, ⟨by omega, by omega, by omega, by omega⟩, ?_⟩
    rw [show (((t.h.length + t.c.length + 1 : Nat) : Int) - 2).toNat = t.h.length + t.c.length - 1 by omega]
    refine for_any (n := t.h.length + t.c.length - 1) (fun i σ H4 => H4 = H3 ∧ ∃ (k : Nat) (j3 : Option V), σ = [some (.ref p), some (.ref l3), some (.int k), j3, none] ∧ 1 ≤ k ∧ k ≤ t.h.length + t.c.length ∧ ∀ n : Nat, 1 ≤ n → n < 2 + i → F k * n ≤ F n * k) ⟨rfl, 1, none, rfl, Nat.le_refl _, by omega, fun n h1 h2 => by rw [show n = 1 by omega]; exact Int.le_refl _⟩ (fun i σ H2 hi h => hi) (fun σ H2 h => Nat.le_refl _) (fun i x σ H4 H5 hi h hy => ?_) (fun σ H4 h => ?_)
    · obtain ⟨rfl, k, j3, rfl, k1, k2, hall⟩ := h
      obtain ⟨rfl, rfl⟩ := hy
      rw [show (2 : Int) + (i : Int) = ((2 + i : Nat) : Int) by omega]
      refine ⟨_, rfl, _, rfl, l3, _, _, _, rfl, rfl, .of h3, atID (i := 2 + i) (by omega), _, rfl, _, _, rfl, rfl, .inr ⟨by omega, by omega⟩, ?_⟩
      rw [vg _ (by omega)]
      refine ⟨_, rfl, _, rfl, l3, _, _, _, rfl, rfl, .of h3, atID (i := k) (by omega), _, rfl, _, _, rfl, rfl, .inr ⟨by omega, by omega⟩, ?_⟩
      rw [vg _ (by omega)]
      refine ⟨_, _, rfl, rfl, _, rfl, iteD (fun e => ?_) (fun e => ?_)⟩
      · refine ⟨_, rfl, rfl, 2 + i, _, rfl, by omega, by omega, fun n h1 h2 => ?_⟩
        by_cases z : n = 2 + i
        · subst z; exact Int.le_refl _
        · have a := hall n h1 (by omega)
          have b : F (2 + i) * (k : Int) * n ≤ F k * ((2 + i : Nat) : Int) * n := Int.mul_le_mul_of_nonneg_right (by omega) (by omega)
          have c : F k * (n : Int) * ((2 + i : Nat) : Int) ≤ F n * k * ((2 + i : Nat) : Int) := Int.mul_le_mul_of_nonneg_right a (by omega)
          have e1 : F (2 + i) * (k : Int) * n = k * (F (2 + i) * n) := by rw [Int.mul_comm (F (2 + i)), Int.mul_assoc]
          have e2 : F k * ((2 + i : Nat) : Int) * n = F k * (n : Int) * ((2 + i : Nat) : Int) := by rw [Int.mul_assoc, Int.mul_comm ((2 + i : Nat) : Int), ← Int.mul_assoc]
          have e3 : F n * k * ((2 + i : Nat) : Int) = k * (F n * ((2 + i : Nat) : Int)) := by rw [Int.mul_comm (F n), Int.mul_assoc]
          have : (k : Int) * (F (2 + i) * n) ≤ k * (F n * ((2 + i : Nat) : Int)) := by omega
          exact Int.le_of_mul_le_mul_left this (by omega)
      · refine ⟨rfl, k, _, rfl, k1, k2, fun n h1 h2 => ?_⟩
        by_cases z : n = 2 + i
        · subst z
          have e' : ¬ F (2 + i) * (k : Int) < F k * ((2 + i : Nat) : Int) := e
          omega
        · exact hall n h1 (by omega)
    · obtain ⟨rfl, k, j3, rfl, k1, k2, hall⟩ := h
      have hall' : ∀ n : Nat, 1 ≤ n → n ≤ t.h.length + t.c.length → F k * n ≤ F n * k := fun n h1 h2 => hall n h1 (by omega)
      refine ⟨_, rfl, p, dx, _, rfl, gr3.at z1, rfl, p, t, rfl, gr3.rowO ⟨dx, x1, y1, z1, he, hr'⟩, c0, by omega, fun u nu => ?_⟩
      have hd : 0 < Nat.gcd t.g.natAbs t.c.length := Nat.gcd_pos_of_pos_right _ c0
      have hdc : Nat.gcd t.g.natAbs t.c.length ≤ t.c.length := Nat.gcd_le_right _ c0
      have dc : ((low t.g t.c.length).2) * (Nat.gcd t.g.natAbs t.c.length : Int) = t.c.length := Int.ediv_mul_cancel (Int.natCast_dvd_natCast.mpr (Nat.gcd_dvd_right _ _))
      have dg : ((low t.g t.c.length).1) * (Nat.gcd t.g.natAbs t.c.length : Int) = t.g := Int.ediv_mul_cancel (Int.dvd_natAbs.mp (Int.natCast_dvd_natCast.mpr (Nat.gcd_dvd_left _ _)))
      have r0 : 0 ≤ (low t.g t.c.length).2 := Int.ediv_nonneg (by omega) (by omega)
      have r1' : (low t.g t.c.length).2 ≤ t.c.length := Int.ediv_le_self _ (by omega)
      have g4 : Gr K H4 (upd H4 u (.tup [.int (low t.g t.c.length).1, .int (low t.g t.c.length).2])) := Ge.new nu
      have h4 : upd H4 u (.tup [.int (low t.g t.c.length).1, .int (low t.g t.c.length).2]) u = some (.tup [.int (low t.g t.c.length).1, .int (low t.g t.c.length).2]) := upd_same
      generalize upd H4 u (.tup [.int (low t.g t.c.length).1, .int (low t.g t.c.length).2]) = H5 at g4 h4 ⊢
      generalize (low t.g t.c.length).1 = a1 at dg h4
      generalize (low t.g t.c.length).2 = a2 at dc h4 r0 r1'
      have h5 := g4.lst h3
      refine ⟨_, rfl, _, rfl, l3, _, _, _, rfl, rfl, .of h5, atID (i := k) (by omega), ?_⟩
      rw [vg _ (by omega)]
      refine ⟨_, rfl, u, _, _, _, rfl, rfl, .of h4, atI_eq (j := 1) rfl rfl, _, _, rfl, rfl, .inr ⟨by omega, by omega⟩, ?_⟩
      refine ⟨_, rfl, u, _, _, _, rfl, rfl, .of h4, atI_eq (j := 0) rfl rfl, _, rfl, _, _, rfl, rfl, .inr ⟨by omega, by omega⟩, ?_⟩
      have key : (a1 * (k : Int) < F k * a2) ↔ (t.g * k < F k * t.c.length) := by
        have hdp : (0 : Int) < (Nat.gcd t.g.natAbs t.c.length : Int) := by omega
        have e1 : t.g * (k : Int) = a1 * k * (Nat.gcd t.g.natAbs t.c.length : Int) := by
          conv => lhs; rw [← dg]
          rw [Int.mul_assoc, Int.mul_assoc, Int.mul_comm (Nat.gcd t.g.natAbs t.c.length : Int)]
        have e2 : F k * (t.c.length : Int) = F k * a2 * (Nat.gcd t.g.natAbs t.c.length : Int) := by
          rw [Int.mul_assoc, dc]
        rw [e1, e2]
        exact ⟨fun h => Int.mul_lt_mul_of_pos_right h hdp, fun h => Int.lt_of_mul_lt_mul_right h (by omega)⟩
      refine ⟨_, _, rfl, rfl, _, rfl, iteD (fun e => ?_) (fun e => ?_)⟩
      · refine ⟨_, rfl, by show 2 ≤ sizeLine; decide, fun v nv => ?_⟩
        exact fin1 _ v u ((gr3.trans g4).trans (Ge.new nv)) upd_same (RW.mean_none c0 gt k1 (key.mp e) hall')
      · refine ⟨_, rfl, _, rfl, l3, _, _, _, rfl, rfl, .of h5, atID (i := k) (by omega), ?_⟩
        refine ⟨_, rfl, vals.getD k 0, k, rfl, k1, by omega, fun v nv => ?_⟩
        refine ⟨_, rfl, by show 2 ≤ sizeLine; decide, fun v2 nv2 => ?_⟩
        have e' : ¬ a1 * (k : Int) < F k * a2 := e
        have le : F k * t.c.length ≤ t.g * k := by
          have := fun z => e' (key.mpr z)
          exact Int.not_lt.mp this
        exact fin2 _ v2 v k (((gr3.trans g4).trans (Ge.new nv)).trans (Ge.new nv2)) upd_same k1 k2 (RW.mean_all c0 gt le hall')
end
end K17
set_option linter.all false
/-! Rows' mathematics, G: the closure. -/
namespace RW
/-- c n: the least sum of f over the ways to write n as a sum of parts from 1 on -/
def IsCl (f c : Nat → Int) : Prop := c 0 = 0 ∧ ∀ n, 1 ≤ n → (∃ p, 1 ≤ p ∧ p ≤ n ∧ c n = f p + c (n - p)) ∧ ∀ p, 1 ≤ p → p ≤ n → c n ≤ f p + c (n - p)
/-- .. up to N -/
def ClTo (f c : Nat → Int) (N : Nat) : Prop := c 0 = 0 ∧ ∀ n, 1 ≤ n → n ≤ N → (∃ p, 1 ≤ p ∧ p ≤ n ∧ c n = f p + c (n - p)) ∧ ∀ p, 1 ≤ p → p ≤ n → c n ≤ f p + c (n - p)
theorem ClTo.uniq {f c d : Nat → Int} {N M : Nat} (h : ClTo f c N) (k : ClTo f d M) (n : Nat) (h1 : n ≤ N) (h2 : n ≤ M) : c n = d n := by
  induction n using Nat.strongRecOn with
  | _ n ih =>
    rcases Nat.eq_zero_or_pos n with z | z
    · rw [z, h.1, k.1]
    · obtain ⟨⟨p, p1, p2, e⟩, l⟩ := h.2 n z h1
      obtain ⟨⟨q, q1, q2, e'⟩, l'⟩ := k.2 n z h2
      have a := l q q1 q2
      have b := l' p p1 p2
      rw [ih (n - q) (by omega) (by omega) (by omega)] at a
      rw [ih (n - p) (by omega) (by omega) (by omega)] at e
      omega
theorem clTo_ex (f : Nat → Int) : ∀ N, ∃ c, ClTo f c N
  | 0 => ⟨fun _ => 0, rfl, fun n h1 h2 => by omega⟩
  | N + 1 => by
    obtain ⟨c, h0, h⟩ := clTo_ex f N
    obtain ⟨m, ⟨i, hi, e⟩, hl⟩ := least_upto (φ := fun i => f (i + 1) + c (N - i)) N
    refine ⟨fun n => if n = N + 1 then m else c n, by simp [h0], fun n h1 h2 => ?_⟩
    by_cases z : n = N + 1
    · subst z
      refine ⟨⟨i + 1, by omega, by omega, ?_⟩, fun p p1 p2 => ?_⟩
      · simp only [if_true]
        rw [if_neg (by omega), e, show N + 1 - (i + 1) = N - i by omega]
      · simp only [if_true]
        rw [if_neg (by omega)]
        have := hl (p - 1) (by omega)
        rw [show p - 1 + 1 = p by omega, show N - (p - 1) = N + 1 - p by omega] at this
        exact this
    · obtain ⟨⟨p, p1, p2, e⟩, l⟩ := h n h1 (by omega)
      refine ⟨⟨p, p1, p2, ?_⟩, fun q q1 q2 => ?_⟩
      · simp only
        rw [if_neg z, if_neg (by omega)]; exact e
      · simp only
        rw [if_neg z, if_neg (by omega)]; exact l q q1 q2
theorem cl_ex (f : Nat → Int) : ∃ c, IsCl f c := by
  refine ⟨fun n => Classical.choose (clTo_ex f n) n, ?_, fun n hn => ?_⟩
  · exact (Classical.choose_spec (clTo_ex f 0)).1
  · have h := Classical.choose_spec (clTo_ex f n)
    have same : ∀ m, m ≤ n → Classical.choose (clTo_ex f m) m = Classical.choose (clTo_ex f n) m := fun m hm => (Classical.choose_spec (clTo_ex f m)).uniq h m (Nat.le_refl _) hm
    obtain ⟨⟨p, p1, p2, e⟩, l⟩ := h.2 n hn (Nat.le_refl _)
    exact ⟨⟨p, p1, p2, by show _ = f p + Classical.choose (clTo_ex f (n - p)) (n - p); rw [same (n - p) (by omega)]; exact e⟩, fun q q1 q2 => by show _ ≤ f q + Classical.choose (clTo_ex f (n - q)) (n - q); rw [same (n - q) (by omega)]; exact l q q1 q2⟩
theorem IsCl.to {f c : Nat → Int} (h : IsCl f c) (N : Nat) : ClTo f c N := ⟨h.1, fun n h1 _ => h.2 n h1⟩
theorem IsCl.uniq {f c d : Nat → Int} (h : IsCl f c) (k : IsCl f d) (n : Nat) : c n = d n := (h.to n).uniq (k.to n) n (Nat.le_refl _) (Nat.le_refl _)
theorem IsCl.sub {f c : Nat → Int} (h : IsCl f c) (a b : Nat) : c (a + b) ≤ c a + c b := by
  induction a using Nat.strongRecOn with
  | _ a ih =>
    rcases Nat.eq_zero_or_pos a with z | z
    · rw [z, h.1, Nat.zero_add]; omega
    · obtain ⟨⟨p, p1, p2, e⟩, _⟩ := h.2 a z
      have l := (h.2 (a + b) (by omega)).2 p p1 (by omega)
      have i := ih (a - p) (by omega)
      rw [show a + b - p = a - p + b by omega] at l
      omega
theorem IsCl.le {f c : Nat → Int} (h : IsCl f c) {n : Nat} (hn : 1 ≤ n) : c n ≤ f n := by
  have := (h.2 n hn).2 n hn (Nat.le_refl _)
  rw [Nat.sub_self, h.1] at this
  omega
/-- a part that no earlier parts replace -/
def Alone (f c : Nat → Int) (n : Nat) : Prop := 1 ≤ n ∧ ∀ p, 1 ≤ p → p < n → f n < f p + c (n - p)
/-- parts that stand alone are enough -/
theorem IsCl.alone {f c : Nat → Int} (h : IsCl f c) {n : Nat} (hn : 1 ≤ n) : ∃ p, Alone f c p ∧ p ≤ n ∧ c n = f p + c (n - p) := by
  obtain ⟨p, ⟨p1, p2, e⟩, hl⟩ := least_nat (P := fun p => 1 ≤ p ∧ p ≤ n ∧ c n = f p + c (n - p)) (h.2 n hn).1
  refine ⟨p, ⟨p1, fun q q1 q2 => ?_⟩, p2, e⟩
  apply Classical.byContradiction
  intro z
  have a := (h.2 n hn).2 q q1 (by omega)
  have s := h.sub (p - q) (n - p)
  rw [show p - q + (n - p) = n - q by omega] at s
  exact hl q q2 ⟨q1, by omega, by omega⟩
/-- .. and what stands alone is told by what stands alone -/
theorem IsCl.alone_by {f c : Nat → Int} (h : IsCl f c) {n : Nat} (hn : 1 ≤ n) (k : ∀ p, Alone f c p → p < n → f n < f p + c (n - p)) : Alone f c n := by
  refine ⟨hn, fun q q1 q2 => ?_⟩
  have hq := h.le q1
  obtain ⟨p, ap, p2, e⟩ := h.alone q1
  have l := k p ap (by omega)
  have s := h.sub (q - p) (n - q)
  rw [show q - p + (n - q) = n - p by omega] at s
  omega
end RW
set_option Elab.async false
set_option linter.all false
set_option maxRecDepth 100000
set_option maxHeartbeats 4000000
namespace K17
open PySem PySem.Spec PyProof.Rows L2 LamX NdefX
section
variable {P : Program} {w : World} {K : PySem.W.Frag} {mg : Str → Option Value} {base : Heap}
theorem Ge.of_new {T : List (Addr × Str)} {H : Hp} {p b : Addr} {o u : HO} (_g : Ge T H (upd H p o)) (h : H p = none) (e : H b = some u) : upd H p o b = some u := by rw [upd_ne (ne_of_none e h)]; exact e
theorem sc_sums_to : FnScope ["row", "number", "values", "found", "begins", "alone", "n", "best", "begin", "part"] ["row", "number"] (defScope (topS 66)) := ⟨rfl, rfl, rfl, by decide +kernel, rfl, by decide +kernel, by decide +kernel⟩
def spSums (K : PySem.W.Frag) : Sp := fun vs H Q _ => ∃ (p : Addr) (f : Nat → Int) (m : Nat), vs = [.ref p, .int m] ∧ IsRow K H p f ∧ m ≤ 8000000 ∧ ∀ H' u a b c, Gr K H H' → H' u = some (.tup [.ref a, .ref b]) → H' a = some (.lst (((List.range (m + 1)).map c).map V.int)) → RW.IsCl f c → Q (.ref u) H'
theorem ok_sums_to (X : Txt K mg) : Ok P w K mg base CX0 5 "sums_to" ["row", "number"] (spSums K) := by
  refine ok_def0 X 49 rfl sc_sums_to (by decide +kernel) (fun vs H Q E h => ?_) (fun _ _ _ _ _ _ us hl => match us, hl with | [_, _], _ => rfl) (fun f cdv A outer s H vs Q E hr h => ?_)
  · obtain ⟨p, f, m, rfl, _⟩ := h; rfl
  · obtain ⟨p, F, m, rfl, r1, hm, fin⟩ := h
    obtain ⟨cl, hcl⟩ := RW.cl_ex F
    obtain ⟨t, dx, x1, y1, ct, et, ⟨zh, zc⟩, z1, he, hr'⟩ := r1.fields
    refine ⟨_, (pss_cons (ps_asg (pe_tup (pa_cons (m1_K X (by decide +kernel) (ok_upto X) hr pass0 (pv 0) (pa_cons (pe_op op_add (pv 1) pe_int) pa_nil)) (pa_cons (pe_lst (pa_cons pe_int pa_nil)) (pa_cons (pe_lst (pa_cons pe_int pa_nil)) (pa_cons (pe_lst pa_nil) pa_nil))))) (tup_K (K := K) (pgs_cons (pg_name (i := 2) sc_sums_to.nd rfl (.inl rfl)) (pgs_cons (pg_name (i := 3) sc_sums_to.nd rfl (.inl rfl)) (pgs_cons (pg_name (i := 4) sc_sums_to.nd rfl (.inl rfl)) (pgs_cons (pg_name (i := 5) sc_sums_to.nd rfl (.inl rfl)) pgs_nil))))))
  (pss_cons (ps_for PassesOwn.never rfl (pi_range2 (by rfl) X.b_range (pa_cons pe_int (pa_cons (pe_op op_add (pv 1) pe_int) pa_nil))) (pg_name (i := 6) sc_sums_to.nd rfl (.inl rfl))
  (pss_cons (ps_par (i := 7) (j := 8) (by rfl) sc_sums_to.nd rfl rfl (by decide) rfl rfl (pa_cons (pe_ix (ixL_K (K := K)) (pv 2) (pv 6) (fun _ _ => rfl)) (pa_cons (pv 6) pa_nil)) (by rfl))
  (pss_cons (ps_for PassesOwn.never rfl (piL_K (K := K) (pv 5)) (pg_name (i := 9) sc_sums_to.nd rfl (.inl rfl))
  (pss_one (ps_if (PW.pt (pw_and (pt_cmpR op_le (pe_op op_add (pe_ix (ixL_K (K := K)) (pv 2) (pv 9) (fun _ _ => rfl)) (pe_ix (ixL_K (K := K)) (pv 3) (pe_op op_sub (pv 6) (pv 9)) (fun _ _ => rfl))) (pv 7) (nomark _)) (pw_and1 (PW.pt (pw_or (pt_cmpR op_lt (pe_op op_add (pe_ix (ixL_K (K := K)) (pv 2) (pv 9) (fun _ _ => rfl)) (pe_ix (ixL_K (K := K)) (pv 3) (pe_op op_sub (pv 6) (pv 9)) (fun _ _ => rfl))) (pv 7) (nomark _)) (pw_or1 (pt_cmpR op_eq (pv 8) (pv 6) (nomark _))))))))
  (pss_one (ps_par (i := 7) (j := 8) (by rfl) sc_sums_to.nd rfl rfl (by decide) rfl rfl (pa_cons (pe_op op_add (pe_ix (ixL_K (K := K)) (pv 2) (pv 9) (fun _ _ => rfl)) (pe_ix (ixL_K (K := K)) (pv 3) (pe_op op_sub (pv 6) (pv 9)) (fun _ _ => rfl))) (pa_cons (pv 9) pa_nil)) (by rfl)))
  pss_nil)))
  (pss_cons (ps_expr (bm_K (K := K) PySem.F.plainAttrs_list PySem.F.slot_list_append PySem.F.type_list_append mt_append (pv 3) (pa_cons (pv 7) pa_nil)))
  (pss_cons (ps_expr (bm_K (K := K) PySem.F.plainAttrs_list PySem.F.slot_list_append PySem.F.type_list_append mt_append (pv 4) (pa_cons (pv 8) pa_nil)))
  (pss_one (ps_if (pt_cmpR op_eq (pv 8) (pv 6) (nomark _))
  (pss_one (ps_expr (bm_K (K := K) PySem.F.plainAttrs_list PySem.F.slot_list_append PySem.F.type_list_append mt_append (pv 5) (pa_cons (pv 6) pa_nil))))
  pss_nil)))))))
  (pss_one (ps_ret (pe_tup (pa_cons (pv 3) (pa_cons (pv 4) pa_nil))))))), ?_⟩
    refine ⟨_, rfl, p, dx, _, rfl, z1, rfl, _, rfl, _, _, rfl, rfl, p, F, m + 1, rfl, r1, by omega, fun H1 l1 g1 n1 h1 => ?_⟩
    refine ⟨by show 1 ≤ sizeLine; decide, fun D1 hD1 => ?_⟩
    refine ⟨by show 1 ≤ sizeLine; decide, fun D2 hD2 => ?_⟩
    refine ⟨by show 0 ≤ sizeLine; decide, fun D3 hD3 => ?_⟩
    have up : ∀ {b q : Addr} {o : HO} {Hx : Hp}, upd Hx q o b = none → Hx b = none := fun {b q o Hx} h => by
      unfold upd at h
      split at h
      · cases h
      · exact h
    have n2 : H1 D2 = none := up hD2
    have n3 : H1 D3 = none := up (up hD3)
    have d12 : D2 ≠ D1 := fun z => by rw [z, upd_same] at hD2; cases hD2
    have d13 : D3 ≠ D1 := fun z => by
      have := up hD3
      rw [z, upd_same] at this; cases this
    have d23 : D3 ≠ D2 := fun z => by rw [z, upd_same] at hD3; cases hD3
    have gA : Gr K H1 (upd (upd (upd H1 D1 (.lst [.int 0])) D2 (.lst [.int 0])) D3 (.lst [])) := ((Ge.new hD1).trans (Ge.new hD2)).trans (Ge.new hD3)
    have a1 : upd (upd (upd H1 D1 (.lst [.int 0])) D2 (.lst [.int 0])) D3 (.lst []) D1 = some (.lst [.int 0]) := by rw [upd_ne d13.symm, upd_ne d12.symm]; exact upd_same
    have a2 : upd (upd (upd H1 D1 (.lst [.int 0])) D2 (.lst [.int 0])) D3 (.lst []) D2 = some (.lst [.int 0]) := by rw [upd_ne d23.symm]; exact upd_same
    have a3 : upd (upd (upd H1 D1 (.lst [.int 0])) D2 (.lst [.int 0])) D3 (.lst []) D3 = some (.lst []) := upd_same
    generalize upd (upd (upd H1 D1 (.lst [.int 0])) D2 (.lst [.int 0])) D3 (.lst []) = H2 at gA a1 a2 a3 ⊢
    have vl : ((List.range (m + 1)).map F).length = m + 1 := by simp
    have vg : ∀ i, i < m + 1 → ((List.range (m + 1)).map F).getD i 0 = F i := fun i hi => by rw [RW.getD_lt (by simpa using hi)]; simp
    generalize (List.range (m + 1)).map F = vals at h1 vl vg
    refine ⟨by show 4 ≤ sizeLine; decide, fun tp ntp => ?_⟩
    have gT : Gr K H2 (upd H2 tp (.tup [.ref l1, .ref D1, .ref D2, .ref D3])) := Ge.new ntp
    refine ⟨tp, _, rfl, .of upd_same, rfl, _, _, rfl, _, _, rfl, _, _, rfl, _, _, rfl, rfl, ?_⟩
    have b1 := gT.lst a1
    have b2 := gT.lst a2
    have b3 := gT.lst a3
    have gB := gA.trans gT
    generalize upd H2 tp (.tup [.ref l1, .ref D1, .ref D2, .ref D3]) = H3 at gB b1 b2 b3 ⊢
    refine ⟨_, rfl, _, _, rfl, rfl, 1, (m : Int) + 1, rfl, ⟨by omega, by omega, by omega, by omega⟩, ?_⟩
    rw [show ((m : Int) + 1 - 1).toNat = m by omega]
    refine for_any (n := m) (fun i σ H4 => Gr K H1 H4 ∧ (∃ j6 j7 j8 j9, σ = [some (.ref p), some (.int m), some (.ref l1), some (.ref D1), some (.ref D2), some (.ref D3), j6, j7, j8, j9]) ∧
      H4 D1 = some (.lst (((List.range (i + 1)).map cl).map V.int)) ∧ (∃ bs : List V, H4 D2 = some (.lst bs) ∧ bs.length = i + 1) ∧
      ∃ as : List Nat, H4 D3 = some (.lst (as.map fun (a : Nat) => V.int (a : Int))) ∧ as.length ≤ i ∧ (∀ a ∈ as, RW.Alone F cl a ∧ a ≤ i) ∧ ∀ a, RW.Alone F cl a → a ≤ i → a ∈ as)
      ⟨gB, ⟨none, none, none, none, rfl⟩, by rw [b1]; show _ = some (HO.lst [V.int (cl 0)]); rw [hcl.1], ⟨_, b2, rfl⟩, [], b3, by simp, by simp, fun a ha h0 => by have := ha.1; omega⟩ (fun i σ H2 hi h => hi) (fun σ H2 h => Nat.le_refl _) (fun i x σ H4 H5 hi h hy => ?_) (fun σ H4 h => ?_)
    · obtain ⟨g4, ⟨j6, j7, j8, j9, rfl⟩, hf, ⟨bs, hb, hbl⟩, as, ha, hal, has1, has2⟩ := h
      obtain ⟨rfl, rfl⟩ := hy
      rw [show (1 : Int) + (i : Int) = ((1 + i : Nat) : Int) by omega]
      obtain ⟨n, en⟩ : ∃ n, n = 1 + i := ⟨_, rfl⟩
      rw [← en]
      have hv := g4.lst h1
      have cg : ∀ k, k < i + 1 → ((List.range (i + 1)).map cl).getD k 0 = cl k := fun k hk => by rw [RW.getD_lt (by simpa using hk)]; simp
      have clen : ((List.range (i + 1)).map cl).length = i + 1 := by simp
      refine ⟨_, rfl, _, rfl, l1, _, _, _, rfl, rfl, .of hv, atID (i := n) (by omega), ?_⟩
      rw [vg _ (by omega)]
      refine ⟨_, rfl, _, _, rfl, ?_⟩
      refine ⟨_, rfl, D3, rfl, ⟨_, .of ha⟩, ?_⟩
      refine for_listP (K := K) (xs := as.map fun (a : Nat) => V.int (a : Int)) (fun j σ H6 => H6 = H5 ∧ ∃ (best : Int) (bg : Nat) (j9 : Option V), σ = [some (.ref p), some (.int m), some (.ref l1), some (.ref D1), some (.ref D2), some (.ref D3), some (.int n), some (.int best), some (.int bg), j9] ∧
        best ≤ F n ∧ (∀ a ∈ as.take j, best ≤ F a + cl (n - a)) ∧ ((bg = n ∧ best = F n ∧ ∀ a ∈ as.take j, F n < F a + cl (n - a)) ∨ (bg ≠ n ∧ ∃ a ∈ as, best = F a + cl (n - a))))
        ⟨rfl, F n, n, _, rfl, Int.le_refl _, by simp, .inl ⟨rfl, rfl, by simp⟩⟩ (fun j σ H6 h => by rw [h.1]; exact ha) (fun j x σ H6 hx h => ?_) (fun σ H6 h => ?_)
      · obtain ⟨rfl, best, bg, j9', rfl, hb1, hb2, hb3⟩ := h
        obtain ⟨a, haj, rfl⟩ : ∃ a : Nat, as[j]? = some a ∧ x = V.int a := by
          rw [List.getElem?_map] at hx
          cases e : as[j]? with
          | none => rw [e] at hx; cases hx
          | some a => rw [e] at hx; cases hx; exact ⟨a, rfl, rfl⟩
        have am : a ∈ as := List.mem_of_getElem? haj
        obtain ⟨al, ai⟩ := has1 a am
        have a1 := al.1
        have tk : as.take (j + 1) = as.take j ++ [a] := by rw [List.take_add_one, haj]; rfl
        refine ⟨_, rfl, _, rfl, l1, _, _, _, rfl, rfl, .of hv, atID (i := a) (by omega), ?_⟩
        rw [vg _ (by omega)]
        refine ⟨_, rfl, _, rfl, _, rfl, _, _, rfl, rfl, D1, _, _, _, rfl, rfl, .of hf, atID' (j := n - a) (by omega) (by omega), ?_⟩
        rw [cg _ (by omega)]
        refine ⟨_, _, rfl, rfl, _, rfl, _, _, rfl, rfl, _, rfl, iteD (fun e => ?_) (fun e => ?_)⟩
        · refine ⟨_, rfl, _, rfl, l1, _, _, _, rfl, rfl, .of hv, atID (i := a) (by omega), ?_⟩
          rw [vg _ (by omega)]
          refine ⟨_, rfl, _, rfl, _, rfl, _, _, rfl, rfl, D1, _, _, _, rfl, rfl, .of hf, atID' (j := n - a) (by omega) (by omega), ?_⟩
          rw [cg _ (by omega)]
          have s1 : F a + cl (n - a) ≤ best := e
          have took : (H6 = H6 ∧ ∃ (best : Int) (bg : Nat) (j9 : Option V), [some (V.ref p), some (.int m), some (.ref l1), some (.ref D1), some (.ref D2), some (.ref D3), some (.int n), some (.int (F a + cl (n - a))), some (.int (a : Nat)), some (.int (a : Nat))] = [some (.ref p), some (.int m), some (.ref l1), some (.ref D1), some (.ref D2), some (.ref D3), some (.int n), some (.int best), some (.int bg), j9] ∧
            best ≤ F n ∧ (∀ a ∈ as.take (j + 1), best ≤ F a + cl (n - a)) ∧ ((bg = n ∧ best = F n ∧ ∀ a ∈ as.take (j + 1), F n < F a + cl (n - a)) ∨ (bg ≠ n ∧ ∃ a ∈ as, best = F a + cl (n - a)))) := by
            refine ⟨rfl, _, a, _, rfl, by omega, fun b hb => ?_, .inr ⟨by omega, a, am, rfl⟩⟩
            rw [tk] at hb
            rcases List.mem_append.mp hb with hb | hb
            · have := hb2 b hb; omega
            · rw [List.mem_singleton.mp hb]; exact Int.le_refl _
          refine ⟨_, _, rfl, rfl, _, rfl, _, _, rfl, rfl, _, rfl, iteD (fun e2 => ?_) (fun e2 => ?_)⟩
          · refine ⟨_, rfl, _, rfl, l1, _, _, _, rfl, rfl, .of hv, atID (i := a) (by omega), ?_⟩
            rw [vg _ (by omega)]
            refine ⟨_, rfl, _, rfl, _, rfl, _, _, rfl, rfl, D1, _, _, _, rfl, rfl, .of hf, atID' (j := n - a) (by omega) (by omega), ?_⟩
            rw [cg _ (by omega)]
            refine ⟨_, _, rfl, rfl, _, rfl, _, _, rfl, ?_⟩
            exact took
          · refine ⟨_, rfl, _, rfl, rfl, _, rfl, iteD (fun e3 => ?_) (fun e3 => ?_)⟩
            · refine ⟨_, rfl, _, rfl, l1, _, _, _, rfl, rfl, .of hv, atID (i := a) (by omega), ?_⟩
              rw [vg _ (by omega)]
              refine ⟨_, rfl, _, rfl, _, rfl, _, _, rfl, rfl, D1, _, _, _, rfl, rfl, .of hf, atID' (j := n - a) (by omega) (by omega), ?_⟩
              rw [cg _ (by omega)]
              refine ⟨_, _, rfl, rfl, _, rfl, _, _, rfl, ?_⟩
              exact took
            · have s2 : ¬ F a + cl (n - a) < best := e2
              have bn : bg ≠ n := fun z => e3 (by rw [z])
              refine ⟨rfl, best, bg, _, rfl, hb1, fun b hb => ?_, ?_⟩
              · rw [tk] at hb
                rcases List.mem_append.mp hb with hb | hb
                · exact hb2 b hb
                · rw [List.mem_singleton.mp hb]; omega
              · rcases hb3 with ⟨c1, _⟩ | c
                · exact absurd c1 bn
                · exact .inr c
        · refine ⟨rfl, best, bg, _, rfl, hb1, fun b hb => ?_, ?_⟩
          · rw [tk] at hb
            rcases List.mem_append.mp hb with hb | hb
            · exact hb2 b hb
            · rw [List.mem_singleton.mp hb]; omega
          · rcases hb3 with ⟨c1, c2, c3⟩ | c
            · refine .inl ⟨c1, c2, fun b hb => ?_⟩
              rw [tk] at hb
              rcases List.mem_append.mp hb with hb | hb
              · exact c3 b hb
              · rw [List.mem_singleton.mp hb]; omega
            · exact .inr c
      · obtain ⟨rfl, best, bg, j9', rfl, hb1, hb2, hb3⟩ := h
        rw [List.length_map, List.take_length] at hb2 hb3
        have n1' : 1 ≤ n := by omega
        have ebest : best = cl n := by
          apply Int.le_antisymm
          · obtain ⟨q, aq, qn, eq⟩ := hcl.alone n1'
            by_cases z : q = n
            · rw [eq, z, Nat.sub_self, hcl.1]; omega
            · have := hb2 q (has2 q aq (by omega))
              omega
          · rcases hb3 with ⟨_, c2, _⟩ | ⟨_, b, bm, c2⟩
            · rw [c2]; exact hcl.le n1'
            · rw [c2]
              exact (hcl.2 n n1').2 b (has1 b bm).1.1 (by have := (has1 b bm).2; omega)
        subst ebest
        refine ⟨_, rfl, .inl ⟨rfl, _, .of hf⟩, _, rfl, D1, _, _, rfl, rfl, hf, by simp only [List.length_map, List.length_range]; exact sizedL (by omega), ?_⟩
        have nf : D1 ≠ D2 := d12.symm
        have nf3 : D1 ≠ D3 := d13.symm
        have nf23 : D2 ≠ D3 := d23.symm
        have g5 := g4.put (o' := .lst (((List.range (i + 1)).map cl).map V.int ++ [.int (cl n)])) hD1 hf (by intro _ z; cases z) (by intro _ z; cases z)
        have e1 : ((List.range (i + 1)).map cl).map V.int ++ [V.int (cl n)] = ((List.range (i + 1 + 1)).map cl).map V.int := by rw [← range_snoc cl (i + 1), List.map_append, show n = i + 1 by omega]; rfl
        rw [e1] at g5 ⊢
        have f1 : upd H6 D1 (.lst (((List.range (i + 1 + 1)).map cl).map V.int)) D1 = some (.lst (((List.range (i + 1 + 1)).map cl).map V.int)) := upd_same
        have f2 : upd H6 D1 (.lst (((List.range (i + 1 + 1)).map cl).map V.int)) D2 = some (.lst bs) := by rw [upd_ne d12]; exact hb
        have f3 : upd H6 D1 (.lst (((List.range (i + 1 + 1)).map cl).map V.int)) D3 = some (.lst (as.map fun (a : Nat) => V.int (a : Int))) := by rw [upd_ne d13]; exact ha
        generalize upd H6 D1 (.lst (((List.range (i + 1 + 1)).map cl).map V.int)) = H7 at g5 f1 f2 f3 ⊢
        refine ⟨_, rfl, .inl ⟨rfl, _, .of f2⟩, _, rfl, D2, _, _, rfl, rfl, f2, sizedL (by omega), ?_⟩
        have g6 := g5.put (o' := .lst (bs ++ [.int (bg : Nat)])) n2 f2 (by intro _ z; cases z) (by intro _ z; cases z)
        have k1 : upd H7 D2 (.lst (bs ++ [.int (bg : Nat)])) D1 = some (.lst (((List.range (i + 1 + 1)).map cl).map V.int)) := by rw [upd_ne nf]; exact f1
        have k2 : upd H7 D2 (.lst (bs ++ [.int (bg : Nat)])) D2 = some (.lst (bs ++ [.int (bg : Nat)])) := upd_same
        have k3 : upd H7 D2 (.lst (bs ++ [.int (bg : Nat)])) D3 = some (.lst (as.map fun (a : Nat) => V.int (a : Int))) := by rw [upd_ne d23]; exact f3
        generalize upd H7 D2 (.lst (bs ++ [.int (bg : Nat)])) = H8 at g6 k1 k2 k3 ⊢
        refine ⟨_, rfl, _, rfl, rfl, _, rfl, iteD (fun e => ?_) (fun e => ?_)⟩
        · have ebg : bg = n := by have := V.int.inj e; omega
          have aln : RW.Alone F cl n := by
            rcases hb3 with ⟨_, _, c3⟩ | ⟨c1, _⟩
            · exact hcl.alone_by n1' fun q aq qn => c3 q (has2 q aq (by omega))
            · exact absurd ebg c1
          refine ⟨_, rfl, .inl ⟨rfl, _, .of k3⟩, _, rfl, D3, _, _, rfl, rfl, k3, by rw [List.length_map]; exact sizedL (by omega), ?_⟩
          refine ⟨g6.put n3 k3 (by intro _ z; cases z) (by intro _ z; cases z), ⟨_, _, _, _, rfl⟩, by rw [upd_ne nf3]; exact k1, ⟨_, by rw [upd_ne nf23]; exact k2, by simp [hbl]⟩, as ++ [n], by rw [upd_same, List.map_append]; rfl, by simp; omega, fun b hb => ?_, fun b hb hbi => ?_⟩
          · rcases List.mem_append.mp hb with hb | hb
            · exact ⟨(has1 b hb).1, by have := (has1 b hb).2; omega⟩
            · rw [List.mem_singleton.mp hb]; exact ⟨aln, by omega⟩
          · by_cases z : b ≤ i
            · exact List.mem_append_left _ (has2 b hb z)
            · rw [show b = n by omega]; simp
        · have nbg : bg ≠ n := fun z => e (by rw [z])
          refine ⟨g6, ⟨_, _, _, _, rfl⟩, k1, ⟨_, k2, by simp [hbl]⟩, as, k3, by omega, fun b hb => ⟨(has1 b hb).1, by have := (has1 b hb).2; omega⟩, fun b hb hbi => ?_⟩
          by_cases z : b ≤ i
          · exact has2 b hb z
          · exfalso
            rw [show b = n by omega] at hb
            rcases hb3 with ⟨c1, _⟩ | ⟨_, q, qm, c2⟩
            · exact nbg c1
            · have := hb.2 q (has1 q qm).1.1 (by have := (has1 q qm).2; omega)
              have := hcl.le n1'
              omega
    · obtain ⟨g4, ⟨j6, j7, j8, j9, rfl⟩, hf, _⟩ := h
      refine ⟨_, rfl, _, rfl, by show 2 ≤ sizeLine; decide, fun u nu => ?_⟩
      exact fin _ u D1 D2 cl ((g1.trans g4).trans (Ge.new nu)) upd_same ((Ge.new (T := tbs K) nu).lst hf) hcl
end
end K17
set_option linter.all false
/-! Rows' mathematics, H: parts and rests. -/
namespace RW
theorem nodup_bounded : ∀ (n : Nat) (l : List Nat), l.Nodup → (∀ x ∈ l, x < n) → l.length ≤ n
  | 0, l, _, h => by
    cases l with
    | nil => simp
    | cons a r => exact absurd (h a (by simp)) (by omega)
  | n + 1, l, nd, h => by
    by_cases hm : n ∈ l
    · have e := List.length_erase_of_mem hm
      have := nodup_bounded n (l.erase n) (nd.erase n) (fun x hx => by
        have a := List.mem_of_mem_erase hx
        have b := h x a
        have c : x ≠ n := fun z => by
          rw [z] at hx
          exact (List.Nodup.not_mem_erase nd) hx
        omega)
      omega
    · have := nodup_bounded n l nd (fun x hx => by
        have b := h x hx
        have c : x ≠ n := fun z => hm (z ▸ hx)
        omega)
      omega
/-- two places of equal value, when there are more places than values -/
theorem two_same {n k : Nat} (φ : Nat → Nat) (hφ : ∀ i, i ≤ k → φ i < n) (hk : n ≤ k) : ∃ i j, i < j ∧ j ≤ k ∧ φ i = φ j := by
  apply Classical.byContradiction
  intro hno
  have nd : ((List.range (k + 1)).map φ).Nodup := by
    rw [List.nodup_iff_pairwise_ne, List.pairwise_map]
    refine List.Pairwise.imp_of_mem ?_ (List.pairwise_lt_range (n := k + 1))
    intro a b ha hb hab e
    exact hno ⟨a, b, hab, by have := List.mem_range.mp hb; omega, e⟩
  have := nodup_bounded n _ nd (fun x hx => by
    obtain ⟨i, hi, rfl⟩ := List.mem_map.mp hx
    exact hφ i (by have := List.mem_range.mp hi; omega))
  simp at this
  omega
def lexLt (a b : Int × Nat) : Prop := a.1 < b.1 ∨ (a.1 = b.1 ∧ a.2 < b.2)
theorem lexLt.trans {a b c : Int × Nat} (h : lexLt a b) (k : lexLt b c) : lexLt a c := by
  unfold lexLt at *; omega
theorem lexLt.irrefl {a : Int × Nat} (h : lexLt a a) : False := by unfold lexLt at h; omega
/-- a way: its parts -/
def wCost (f : Nat → Int) : List Nat → Int
  | [] => 0
  | p :: l => f p + wCost f l
theorem wCost_append (f : Nat → Int) : ∀ a b : List Nat, wCost f (a ++ b) = wCost f a + wCost f b
  | [], b => by simp [wCost]
  | p :: a, b => by simp [wCost, wCost_append f a b]; omega
theorem wCost_nonneg {f : Nat → Int} : ∀ {l : List Nat}, (∀ p ∈ l, 0 ≤ f p) → 0 ≤ wCost f l
  | [], _ => Int.le_refl _
  | p :: l, h => by
    have := h p (by simp)
    have := wCost_nonneg (f := f) (l := l) fun q hq => h q (by simp [hq])
    show 0 ≤ f p + wCost f l
    omega
/-- a way of `many` parts or more is beaten by a shorter one of the same rest -/
theorem shorten {f : Nat → Int} {many : Nat} (hm : 0 < many) {l : List Nat} (h1 : ∀ p ∈ l, 1 ≤ p) (h0 : ∀ p ∈ l, 0 ≤ f p) (hl : many ≤ l.length) :
    ∃ l', l'.length < l.length ∧ (∀ p ∈ l', p ∈ l) ∧ l'.sum % many = l.sum % many ∧ lexLt (wCost f l', l'.sum) (wCost f l, l.sum) := by
  obtain ⟨i, j, hij, hj, e⟩ := two_same (n := many) (k := l.length) (fun i => (l.take i).sum % many) (fun i _ => Nat.mod_lt _ hm) hl
  have s1 : l = l.take i ++ ((l.drop i).take (j - i) ++ l.drop j) := by
    have a : l.drop i = (l.drop i).take (j - i) ++ (l.drop i).drop (j - i) := (List.take_append_drop _ _).symm
    rw [List.drop_drop, show i + (j - i) = j by omega] at a
    rw [← a, List.take_append_drop]
  have s2 : l.take j = l.take i ++ (l.drop i).take (j - i) := by
    rw [show j = i + (j - i) by omega, List.take_add, show i + (j - i) - i = j - i by omega]
  have ml : ((l.drop i).take (j - i)).length = j - i := by simp; omega
  have mem : ∀ p ∈ (l.drop i).take (j - i), p ∈ l := fun p hp => List.mem_of_mem_drop (List.mem_of_mem_take hp)
  have pos : 0 < ((l.drop i).take (j - i)).sum := by
    cases hc : (l.drop i).take (j - i) with
    | nil => rw [hc] at ml; simp at ml; omega
    | cons p r =>
      have := h1 p (mem p (by rw [hc]; simp))
      simp; omega
  have cn := wCost_nonneg (f := f) (l := (l.drop i).take (j - i)) fun p hp => h0 p (mem p hp)
  refine ⟨l.take i ++ l.drop j, ?_, fun p hp => ?_, ?_, ?_⟩
  · simp; omega
  · rcases List.mem_append.mp hp with z | z
    · exact List.mem_of_mem_take z
    · exact List.mem_of_mem_drop z
  · have a : l.sum = (l.take j).sum + (l.drop j).sum := by rw [← List.sum_append, List.take_append_drop]
    rw [a, List.sum_append, Nat.add_mod, Nat.add_mod (l.take j).sum]
    have e' : (l.take i).sum % many = (l.take j).sum % many := e
    rw [e']
  · have a := congrArg (wCost f) s1
    have b := congrArg List.sum s1
    rw [wCost_append, wCost_append] at a
    rw [List.sum_append, List.sum_append] at b
    unfold lexLt
    simp only [wCost_append, List.sum_append]
    omega
def Way (L : Nat) (l : List Nat) : Prop := ∀ p ∈ l, 1 ≤ p ∧ p < L
def lexLe (a b : Int × Nat) : Prop := a = b ∨ lexLt a b
theorem lexLe.trans {a b c : Int × Nat} (h : lexLe a b) (k : lexLe b c) : lexLe a c := by
  rcases h with rfl | h
  · exact k
  · rcases k with rfl | k
    · exact .inr h
    · exact .inr (h.trans k)
theorem lex_total (a b : Int × Nat) : lexLe a b ∨ lexLt b a := by
  obtain ⟨a1, a2⟩ := a
  obtain ⟨b1, b2⟩ := b
  unfold lexLe lexLt
  simp only [Prod.mk.injEq]
  omega
/-- every way has a short one that is no worse -/
theorem short_way {f : Nat → Int} {many L : Nat} (hm : 0 < many) (h0 : ∀ p, 1 ≤ p → p < L → 0 ≤ f p) {l : List Nat} (hl : Way L l) :
    ∃ l', l'.length < many ∧ Way L l' ∧ l'.sum % many = l.sum % many ∧ lexLe (wCost f l', l'.sum) (wCost f l, l.sum) := by
  obtain ⟨n, hn⟩ : ∃ n, n = l.length := ⟨_, rfl⟩
  induction n using Nat.strongRecOn generalizing l with
  | _ n ih =>
    by_cases z : l.length < many
    · exact ⟨l, z, hl, rfl, .inl rfl⟩
    · obtain ⟨l1, a1, a2, a3, a4⟩ := shorten (f := f) hm (fun p hp => (hl p hp).1) (fun p hp => h0 p (hl p hp).1 (hl p hp).2) (by omega)
      obtain ⟨l2, b1, b2, b3, b4⟩ := ih l1.length (by omega) (l := l1) (fun p hp => hl p (a2 p hp)) rfl
      exact ⟨l2, b1, b2, b3.trans a3, b4.trans (.inr a4)⟩
end RW
set_option linter.all false
/-! Rows' mathematics, I: the cheapest ways by rests. -/
namespace RW
/-- v is the least (cost, sum) of the ways with parts below L whose sum has the rest r -/
def Cheap (f : Nat → Int) (L many r : Nat) (v : Int × Nat) : Prop :=
  (∃ l, Way L l ∧ l.sum % many = r ∧ v = (wCost f l, l.sum)) ∧ ∀ l, Way L l → l.sum % many = r → lexLe v (wCost f l, l.sum)
theorem lexLe.antisymm {a b : Int × Nat} (h : lexLe a b) (k : lexLe b a) : a = b := by
  rcases h with h | h
  · exact h
  · rcases k with k | k
    · exact k.symm
    · exact (lexLt.irrefl (h.trans k)).elim
theorem Cheap.uniq {f : Nat → Int} {L many r : Nat} {v w : Int × Nat} (h : Cheap f L many r v) (k : Cheap f L many r w) : v = w := by
  obtain ⟨⟨l, a, b, e⟩, c⟩ := h
  obtain ⟨⟨l', a', b', e'⟩, c'⟩ := k
  have x := c l' a' b'
  have y := c' l a b
  rw [← e'] at x
  rw [← e] at y
  exact x.antisymm y
end RW
set_option linter.all false
/-! Rows' mathematics, J: the rounds that find the cheapest ways. -/
namespace RW
def addP (a b : Int × Nat) : Int × Nat := (a.1 + b.1, a.2 + b.2)
theorem lexLe.add {a b c d : Int × Nat} (h : lexLe a b) (k : lexLe c d) : lexLe (addP a c) (addP b d) := by
  obtain ⟨a1, a2⟩ := a
  obtain ⟨b1, b2⟩ := b
  obtain ⟨c1, c2⟩ := c
  obtain ⟨d1, d2⟩ := d
  unfold lexLe lexLt addP at *
  simp only [Prod.mk.injEq] at *
  omega
/-- the least arc of a step among the parts up to i -/
def IsArc (f : Nat → Int) (many i s : Nat) (o : Option (Int × Nat)) : Prop :=
  (∀ v, o = some v → ∃ p, 1 ≤ p ∧ p ≤ i ∧ p % many = s ∧ v = (f p, p)) ∧ ∀ p, 1 ≤ p → p ≤ i → p % many = s → ∃ v, o = some v ∧ lexLe v (f p, p)
theorem IsArc.zero {f : Nat → Int} {many s : Nat} : IsArc f many 0 s none := ⟨fun v h => by (cases h), fun p h1 h2 _ => by omega⟩
theorem IsArc.skip {f : Nat → Int} {many i s : Nat} {o : Option (Int × Nat)} (h : IsArc f many i s o) (k : (i + 1) % many ≠ s) : IsArc f many (i + 1) s o := by
  refine ⟨fun v e => ?_, fun p p1 p2 p3 => ?_⟩
  · obtain ⟨p, a, b, c, d⟩ := h.1 v e
    exact ⟨p, a, by omega, c, d⟩
  · by_cases z : p = i + 1
    · rw [z] at p3; exact absurd p3 k
    · exact h.2 p p1 (by omega) p3
theorem IsArc.next {f : Nat → Int} {many i s : Nat} {o : Option (Int × Nat)} (h : IsArc f many i s o) (k : (i + 1) % many = s) {v : Int × Nat}
    (hv : v = (f (i + 1), i + 1) ∨ o = some v) (hn : lexLe v (f (i + 1), i + 1)) (ho : ∀ w, o = some w → lexLe v w) : IsArc f many (i + 1) s (some v) := by
  refine ⟨fun w e => ?_, fun p p1 p2 p3 => ⟨v, rfl, ?_⟩⟩
  · cases e
    rcases hv with rfl | hv
    · exact ⟨i + 1, by omega, Nat.le_refl _, k, rfl⟩
    · obtain ⟨p, a, b, c, d⟩ := h.1 v hv
      exact ⟨p, a, by omega, c, d⟩
  · by_cases z : p = i + 1
    · rw [z]; exact hn
    · obtain ⟨w, e, l⟩ := h.2 p p1 (by omega) p3
      exact (ho w e).trans l
/-- all that is found is some way's -/
def Sound (f : Nat → Int) (L many : Nat) (φ : Nat → Option (Int × Nat)) : Prop := ∀ r v, φ r = some v → ∃ l, Way L l ∧ l.sum % many = r ∧ v = (wCost f l, l.sum)
/-- no way with at most k parts is better -/
def Upto (f : Nat → Int) (L many k : Nat) (φ : Nat → Option (Int × Nat)) : Prop := ∀ l, Way L l → l.length ≤ k → ∃ v, φ (l.sum % many) = some v ∧ lexLe v (wCost f l, l.sum)
def Below (φ ψ : Nat → Option (Int × Nat)) : Prop := ∀ r v, φ r = some v → ∃ w, ψ r = some w ∧ lexLe w v
/-- from rest r, by the step s, ψ has all that φ tells -/
def Stepped (A φ ψ : Nat → Option (Int × Nat)) (many r s : Nat) : Prop := ∀ v a, φ r = some v → A s = some a → ∃ w, ψ ((r + s) % many) = some w ∧ lexLe w (addP v a)
theorem Below.refl (φ : Nat → Option (Int × Nat)) : Below φ φ := fun r v e => ⟨v, e, .inl rfl⟩
theorem Below.trans {φ ψ χ : Nat → Option (Int × Nat)} (h : Below φ ψ) (k : Below ψ χ) : Below φ χ := fun r v e => by
  obtain ⟨w, e1, l1⟩ := h r v e
  obtain ⟨x, e2, l2⟩ := k r w e1
  exact ⟨x, e2, l2.trans l1⟩
theorem Stepped.below {A φ ψ χ : Nat → Option (Int × Nat)} {many r s : Nat} (h : Stepped A φ ψ many r s) (k : Below ψ χ) : Stepped A φ χ many r s := fun v a e1 e2 => by
  obtain ⟨w, e, l⟩ := h v a e1 e2
  obtain ⟨x, e', l'⟩ := k _ _ e
  exact ⟨x, e', l'.trans l⟩
theorem Upto.step {f : Nat → Int} {L many k : Nat} {A φ ψ : Nat → Option (Int × Nat)} (hm : 0 < many) (hL : 0 < L) (hA : ∀ s, s < many → IsArc f many (L - 1) s (A s)) (h : Upto f L many k φ) (b : Below φ ψ)
    (st : ∀ r s, r < many → s < many → Stepped A φ ψ many r s) : Upto f L many (k + 1) ψ := by
  intro l hl hk
  cases l with
  | nil =>
    obtain ⟨v, e, le⟩ := h [] hl (by simp)
    obtain ⟨w, e2, l2⟩ := b _ _ e
    exact ⟨w, e2, l2.trans le⟩
  | cons p l =>
    obtain ⟨v, e, le⟩ := h l (fun q hq => hl q (by simp [hq])) (by simp at hk; omega)
    obtain ⟨p1, p2⟩ := hl p (by simp)
    obtain ⟨a, ea, la⟩ := (hA (p % many) (Nat.mod_lt _ hm)).2 p p1 (by omega) rfl
    obtain ⟨w, ew, lw⟩ := st _ _ (Nat.mod_lt _ hm) (Nat.mod_lt _ hm) v a e ea
    refine ⟨w, ?_, ?_⟩
    · rw [← ew]
      congr 1
      rw [List.sum_cons, ← Nat.add_mod, Nat.add_comm]
    · have := le.add la
      have e3 : addP (wCost f l, l.sum) (f p, p) = (wCost f (p :: l), (p :: l).sum) := by
        unfold addP
        simp only [wCost, List.sum_cons]
        rw [Int.add_comm, Nat.add_comm]
      rw [e3] at this
      exact lw.trans this
theorem upto_all {f : Nat → Int} {L many : Nat} {A φ : Nat → Option (Int × Nat)} (hm : 0 < many) (hL : 0 < L) (hA : ∀ s, s < many → IsArc f many (L - 1) s (A s)) (h : Upto f L many 0 φ)
    (st : ∀ r s, r < many → s < many → Stepped A φ φ many r s) : ∀ k, Upto f L many k φ
  | 0 => h
  | k + 1 => (upto_all hm hL hA h st k).step hm hL hA (Below.refl φ) st
/-- ways that are short are enough -/
theorem Upto.full {f : Nat → Int} {L many k : Nat} {φ : Nat → Option (Int × Nat)} (hm : 0 < many) (h0 : ∀ p, 1 ≤ p → p < L → 0 ≤ f p) (h : Upto f L many k φ) (hk : many ≤ k + 1) :
    ∀ l, Way L l → ∃ v, φ (l.sum % many) = some v ∧ lexLe v (wCost f l, l.sum) := fun l hl => by
  obtain ⟨l', a, b, c, d⟩ := short_way hm h0 hl
  obtain ⟨v, e, le⟩ := h l' b (by omega)
  rw [c] at e
  exact ⟨v, e, le.trans d⟩
theorem Sound.cheap {f : Nat → Int} {L many : Nat} {φ : Nat → Option (Int × Nat)} (s : Sound f L many φ) (h : ∀ l, Way L l → ∃ v, φ (l.sum % many) = some v ∧ lexLe v (wCost f l, l.sum)) {r : Nat} {v : Int × Nat} (e : φ r = some v) : Cheap f L many r v := by
  refine ⟨s r v e, fun l hl hr => ?_⟩
  obtain ⟨w, e2, le⟩ := h l hl
  rw [hr, e] at e2
  cases e2
  exact le
/-- what an arc makes of a way is a way -/
theorem Sound.arc {f : Nat → Int} {L many : Nat} {A φ : Nat → Option (Int × Nat)} (hL : 0 < L) (s : Sound f L many φ) (hA : ∀ s, s < many → IsArc f many (L - 1) s (A s)) {r q : Nat} {v a : Int × Nat} (hq : q < many) (e : φ r = some v) (ea : A q = some a) :
    ∃ l, Way L l ∧ l.sum % many = (r + q) % many ∧ addP v a = (wCost f l, l.sum) := by
  obtain ⟨l, h1, h2, rfl⟩ := s r v e
  obtain ⟨p, p1, p2, p3, rfl⟩ := (hA q hq).1 a ea
  refine ⟨p :: l, fun x hx => ?_, ?_, ?_⟩
  · rcases List.mem_cons.mp hx with rfl | hx
    · exact ⟨p1, by omega⟩
    · exact h1 x hx
  · rw [List.sum_cons, Nat.add_mod, h2, p3, Nat.add_comm, ← Nat.mod_eq_of_lt hq, Nat.add_mod_mod]
  · unfold addP
    simp only [wCost, List.sum_cons]
    rw [Int.add_comm, Nat.add_comm]
/-- one entry changed -/
def putF (φ : Nat → Option (Int × Nat)) (r : Nat) (v : Int × Nat) : Nat → Option (Int × Nat) := fun q => if q = r then some v else φ q
theorem Below.put {φ : Nat → Option (Int × Nat)} {r : Nat} {v : Int × Nat} (h : ∀ w, φ r = some w → lexLt v w) : Below φ (putF φ r v) := fun q w e => by
  unfold putF
  by_cases z : q = r
  · rw [if_pos z]; exact ⟨v, rfl, .inr (h w (z ▸ e))⟩
  · rw [if_neg z]; exact ⟨w, e, .inl rfl⟩
theorem Sound.put {f : Nat → Int} {L many : Nat} {φ : Nat → Option (Int × Nat)} (s : Sound f L many φ) {r : Nat} {v : Int × Nat} (h : ∃ l, Way L l ∧ l.sum % many = r ∧ v = (wCost f l, l.sum)) : Sound f L many (putF φ r v) := fun q w e => by
  unfold putF at e
  by_cases z : q = r
  · rw [if_pos z] at e; cases e; rw [z]; exact h
  · rw [if_neg z] at e; exact s q w e
end RW
set_option linter.all false
/-! Rows' mathematics, K: from which place on a closure goes round. -/
namespace RW
theorem mod_dvd {a b p : Nat} (h : a % p = b % p) : p ∣ b - a := Nat.dvd_of_mod_eq_zero (Nat.sub_mod_eq_zero_of_mod_eq h.symm)
theorem mod_cancel {a x y c : Nat} (h : (a + x) % c = (a + y) % c) : x % c = y % c := by
  rcases Nat.le_total x y with z | z
  · obtain ⟨k, hk⟩ := mod_dvd h
    rw [show y = x + c * k by omega, Nat.add_mul_mod_self_left]
  · obtain ⟨k, hk⟩ := mod_dvd h.symm
    rw [show x = y + c * k by omega, Nat.add_mul_mod_self_left]
theorem IsCl.way_le {f c : Nat → Int} (h : IsCl f c) : ∀ l : List Nat, (∀ p ∈ l, 1 ≤ p) → c l.sum ≤ wCost f l
  | [], _ => by simp [wCost, h.1]
  | p :: l, k => by
    have p1 := k p (by simp)
    have i := h.way_le l fun q hq => k q (by simp [hq])
    have s := h.sub p l.sum
    have e := h.le p1
    rw [List.sum_cons]
    show _ ≤ f p + wCost f l
    omega
theorem IsCl.way_ex {f c : Nat → Int} (h : IsCl f c) (n : Nat) : ∃ l : List Nat, (∀ p ∈ l, 1 ≤ p) ∧ l.sum = n ∧ c n = wCost f l := by
  induction n using Nat.strongRecOn with
  | _ n ih =>
    rcases Nat.eq_zero_or_pos n with z | z
    · exact ⟨[], by simp, by simp [z], by rw [z, h.1]; rfl⟩
    · obtain ⟨⟨p, p1, p2, e⟩, _⟩ := h.2 n z
      obtain ⟨l, a, b, d⟩ := ih (n - p) (by omega)
      refine ⟨p :: l, fun q hq => ?_, by rw [List.sum_cons]; omega, ?_⟩
      · rcases List.mem_cons.mp hq with rfl | hq
        · exact p1
        · exact a q hq
      · show _ = f p + wCost f l
        omega
theorem wCost_lin (f : Nat → Int) (a v : Int) : ∀ l : List Nat, wCost (fun n => a * f n - v * n) l = a * wCost f l - v * (l.sum : Nat)
  | [] => by simp [wCost]
  | p :: l => by
    simp only [wCost, List.sum_cons]
    rw [wCost_lin f a v l, Int.mul_add, Int.natCast_add, Int.mul_add]
    omega
theorem reduce1 {C : Nat → Int} {many L : Nat} (h : ∀ q, L ≤ q → ∃ q', 1 ≤ q' ∧ q' < q ∧ q' % many = q % many ∧ C q' ≤ C q) (q : Nat) (hq : 1 ≤ q) : ∃ q', 1 ≤ q' ∧ q' < L ∧ q' % many = q % many ∧ C q' ≤ C q := by
  induction q using Nat.strongRecOn with
  | _ q ih =>
    by_cases z : q < L
    · exact ⟨q, hq, z, rfl, Int.le_refl _⟩
    · obtain ⟨q', a, b, c, d⟩ := h q (by omega)
      obtain ⟨q'', a', b', c', d'⟩ := ih q' b a
      exact ⟨q'', a', b', c'.trans c, Int.le_trans d' d⟩
theorem reduce {C : Nat → Int} {many L : Nat} (h : ∀ q, L ≤ q → ∃ q', 1 ≤ q' ∧ q' < q ∧ q' % many = q % many ∧ C q' ≤ C q) :
    ∀ l : List Nat, (∀ p ∈ l, 1 ≤ p) → ∃ l', Way L l' ∧ l'.sum % many = l.sum % many ∧ wCost C l' ≤ wCost C l
  | [], _ => ⟨[], by simp [Way], rfl, Int.le_refl _⟩
  | p :: l, k => by
    obtain ⟨q, a, b, c, d⟩ := reduce1 h p (k p (by simp))
    obtain ⟨l', a', c', d'⟩ := reduce h l fun x hx => k x (by simp [hx])
    refine ⟨q :: l', fun x hx => ?_, ?_, ?_⟩
    · rcases List.mem_cons.mp hx with rfl | hx
      · exact ⟨a, b⟩
      · exact a' x hx
    · rw [List.sum_cons, List.sum_cons, Nat.add_mod, c, c', ← Nat.add_mod]
    · show C q + wCost C l' ≤ C p + wCost C l
      omega
/-- many copies of one part -/
theorem wCost_copies (C : Nat → Int) (p : Nat) (h : C p = 0) : ∀ k, wCost C (List.replicate k p) = 0
  | 0 => rfl
  | k + 1 => by
    rw [List.replicate_succ]
    show C p + _ = 0
    rw [h, wCost_copies C p h k]
    rfl
theorem sum_copies (p : Nat) : ∀ k, (List.replicate k p).sum = k * p
  | 0 => by simp
  | k + 1 => by rw [List.replicate_succ, List.sum_cons, sum_copies p k, Nat.add_mul]; omega
/-- what the rounds tell of all rests -/
structure Told (C : Nat → Int) (L many : Nat) (φ : Nat → Option (Int × Nat)) : Prop where
  ch : ∀ r v, φ r = some v → Cheap C L many r v
  al : ∀ l, Way L l → ∃ v, φ (l.sum % many) = some v ∧ lexLe v (wCost C l, l.sum)
theorem Told.le {C : Nat → Int} {L many : Nat} {φ : Nat → Option (Int × Nat)} (h : Told C L many φ) {l : List Nat} (hl : Way L l) : ∃ v, φ (l.sum % many) = some v ∧ v.1 ≤ wCost C l := by
  obtain ⟨v, e, le⟩ := h.al l hl
  refine ⟨v, e, ?_⟩
  rcases le with rfl | z
  · exact Int.le_refl _
  · rcases z with z | z
    · exact Int.le_of_lt z
    · exact Int.le_of_eq z.1
theorem at_mean {f cl : Nat → Int} {c h p m b : Nat} {g v : Int} {φ : Nat → Option (Int × Nat)} (hc : 0 < c) (hg : Gains f c g h) (hp : 1 ≤ p) (hv : v = f p) (mean : ∀ n : Nat, 1 ≤ n → v * n ≤ f n * p) (slope : v * c ≤ g * p)
    (m0 : 0 < m) (mc : c ∣ m) (mp : p ∣ m) (hcl : IsCl f cl) (told : Told (fun n => p * f n - v * n) (h + m + 1) p φ) (hb : ∀ r V, φ r = some V → V.2 + 1 ≤ b + p) : Gains cl p v b := by
  obtain ⟨C, eC⟩ : ∃ C : Nat → Int, C = fun n => p * f n - v * n := ⟨_, rfl⟩
  have eC' : ∀ n, C n = p * f n - v * n := fun n => by rw [eC]
  rw [← eC] at told
  have lin : ∀ l : List Nat, wCost C l = p * wCost f l - v * (l.sum : Nat) := fun l => by rw [eC]; exact wCost_lin f p v l
  have Cp : C p = 0 := by rw [eC', ← hv, Int.mul_comm]; omega
  have red : ∀ q, h + m + 1 ≤ q → ∃ q', 1 ≤ q' ∧ q' < q ∧ q' % p = q % p ∧ C q' ≤ C q := fun q hq => by
    obtain ⟨k, rfl⟩ := mc
    obtain ⟨j, hj⟩ := mp
    refine ⟨q - c * k, by omega, by omega, ?_, ?_⟩
    · have : q = q - c * k + p * j := by omega
      conv => rhs; rw [this]
      rw [Nat.add_mul_mod_self_left]
    · have e := (hg.mul' k) (q - c * k) (by omega)
      rw [show q - c * k + c * k = q by omega] at e
      rw [eC', eC', e, Int.mul_add]
      have e2 : v * (q : Int) = v * ((q - c * k : Nat) : Int) + v * c * k := by
        rw [Int.mul_assoc, ← Int.mul_add]
        congr 1
        have : q = q - c * k + c * k := by omega
        rw [← Int.natCast_mul, ← Int.natCast_add]
        congr 1
      have e3 : v * c * k ≤ g * p * k := Int.mul_le_mul_of_nonneg_right slope (by omega)
      have e4 : (p : Int) * (k * g) = g * p * k := by rw [Int.mul_comm g, Int.mul_assoc, Int.mul_comm g]
      rw [e2]
      omega
  have key : ∀ (n : Nat) (V : Int × Nat), φ (n % p) = some V → V.2 ≤ n → (p : Int) * cl n = v * n + V.1 := fun n V e hn => by
    obtain ⟨⟨l, l1, l2, rfl⟩, _⟩ := told.ch _ _ e
    have hn : l.sum ≤ n := hn
    apply Int.le_antisymm
    · -- copies of p behind the way
      obtain ⟨k, hk⟩ : ∃ k, n = l.sum + k * p := by
        refine ⟨(n - l.sum) / p, ?_⟩
        have : (n - l.sum) % p = 0 := by
          exact Nat.mod_eq_zero_of_dvd (mod_dvd l2)
        have := Nat.div_add_mod (n - l.sum) p
        rw [Nat.mul_comm] at this
        omega
      have w := hcl.way_le (l ++ List.replicate k p) fun q hq => by
        rcases List.mem_append.mp hq with z | z
        · exact (l1 q z).1
        · rw [List.eq_of_mem_replicate z]; exact hp
      rw [List.sum_append, sum_copies, ← hk] at w
      have e1 := lin (l ++ List.replicate k p)
      rw [List.sum_append, sum_copies, ← hk, wCost_append C, wCost_copies C p Cp] at e1
      have := Int.mul_le_mul_of_nonneg_left w (show (0 : Int) ≤ p by omega)
      show _ ≤ v * n + wCost C l
      omega
    · obtain ⟨l', k1, k2, k3⟩ := hcl.way_ex n
      obtain ⟨l2', q1, q2, q3⟩ := reduce red l' k1
      obtain ⟨V', eV, le⟩ := told.le q1
      rw [q2, k2, e] at eV
      cases eV
      have e1 := lin l'
      rw [k2, ← k3] at e1
      omega
  intro n hn
  -- the rest of n is reached
  have reach : ∃ V, φ (n % p) = some V := by
    obtain ⟨l', k1, k2, k3⟩ := hcl.way_ex n
    obtain ⟨l2', q1, q2, q3⟩ := reduce red l' k1
    obtain ⟨V', eV, le⟩ := told.le q1
    rw [q2, k2] at eV
    exact ⟨V', eV⟩
  obtain ⟨V, eV⟩ := reach
  have bV := hb _ _ eV
  have hle : V.2 ≤ n := by
    obtain ⟨⟨l, l1, l2, rfl⟩, _⟩ := told.ch _ _ eV
    show l.sum ≤ n
    have bV : l.sum + 1 ≤ b + p := bV
    apply Classical.byContradiction
    intro z
    have : l.sum % p = n % p := l2
    have d : p ∣ (l.sum - n) := mod_dvd l2.symm
    have := Nat.le_of_dvd (by omega) d
    omega
  have a1 := key n V eV hle
  have a2 := key (n + p) V (by rw [Nat.add_mod_right]; exact eV) (by omega)
  have : (p : Int) * cl (n + p) = p * (cl n + v) := by
    rw [a2, Int.mul_add, a1, Int.natCast_add, Int.mul_add, Int.mul_comm (p : Int) v]
    omega
  exact Int.eq_of_mul_eq_mul_left (by omega) this
theorem above {f cl : Nat → Int} {c h low b : Nat} {g dear : Int} {φ : Nat → Option (Int × Nat)} {B : Nat → Int} (hc : 0 < c) (hg : Gains f c g h) (hlow : h ≤ low) (low1 : 1 ≤ low) (pos : ∀ n : Nat, 1 ≤ n → g * n < f n * c)
    (hcl : IsCl f cl) (told : Told (fun n => c * f n - g * n) (low + c) c φ) (hS : ∀ r V, φ r = some V → low + c + V.2 ≤ b) (d0 : 0 ≤ dear)
    (hd : ∀ r, r < c → B r ≤ dear) (hB1 : ∀ r, r < c → ∃ n q V, low ≤ n ∧ n < low + c ∧ q < c ∧ (q + n) % c = r ∧ φ q = some V ∧ B r = c * f n - g * n + V.1)
    (hB2 : ∀ r, r < c → ∀ n q V, low ≤ n → n < low + c → q < c → (q + n) % c = r → φ q = some V → B r ≤ c * f n - g * n + V.1)
    (hsm : ∀ n : Nat, 1 ≤ n → n < low → dear * n < (c * f n - g * n) * b) : Gains cl c g b := by
  obtain ⟨C, eC⟩ : ∃ C : Nat → Int, C = fun n => c * f n - g * n := ⟨_, rfl⟩
  have eC' : ∀ n, C n = c * f n - g * n := fun n => by rw [eC]
  rw [← eC] at told
  simp only [← eC'] at hB1 hB2 hsm
  have lin : ∀ l : List Nat, wCost C l = c * wCost f l - g * (l.sum : Nat) := fun l => by rw [eC]; exact wCost_lin f c g l
  have Cpos : ∀ n, 1 ≤ n → 0 < C n := fun n hn => by
    have := pos n hn
    rw [eC', Int.mul_comm (c : Int)]; omega
  have per : ∀ n, low ≤ n → C (n + c) = C n := fun n hn => by
    rw [eC', eC', hg n (by omega), Int.mul_add, Int.natCast_add, Int.mul_add, Int.mul_comm (c : Int) g]
    omega
  have perk : ∀ k n, low ≤ n → C (n + c * k) = C n := fun k => by
    induction k with
    | zero => intro n _; rfl
    | succ k ih =>
      intro n hn
      rw [Nat.mul_add, Nat.mul_one, ← Nat.add_assoc, per _ (by omega), ih n hn]
  -- a big part seen in the first round
  have big : ∀ q, low ≤ q → ∃ n, low ≤ n ∧ n < low + c ∧ n % c = q % c ∧ C n = C q := fun q hq => by
    refine ⟨low + (q - low) % c, by omega, by have := Nat.mod_lt (q - low) hc; omega, ?_, ?_⟩
    · rw [Nat.add_mod_mod]; congr 1; omega
    · have e := Nat.div_add_mod (q - low) c
      have := perk ((q - low) / c) (low + (q - low) % c) (by omega)
      rw [← this]; congr 1; omega
  have red : ∀ q, low + c ≤ q → ∃ q', 1 ≤ q' ∧ q' < q ∧ q' % c = q % c ∧ C q' ≤ C q := fun q hq => by
    obtain ⟨n, a, b, d, e⟩ := big q (by omega)
    exact ⟨n, by omega, by omega, d, Int.le_of_eq e⟩
  have key : ∀ n, b ≤ n → (c : Int) * cl n = g * n + B (n % c) := fun n hn => by
    have hr : n % c < c := Nat.mod_lt _ hc
    apply Int.le_antisymm
    · obtain ⟨n1, q, V, a1, a2, a3, a4, a5, a6⟩ := hB1 _ hr
      obtain ⟨⟨l, l1, l2, rfl⟩, _⟩ := told.ch _ _ a5
      have s := hS _ _ a5
      have s : low + c + l.sum ≤ b := s
      have w := hcl.way_le ((n - l.sum) :: l) fun x hx => by
        rcases List.mem_cons.mp hx with rfl | hx
        · omega
        · exact (l1 x hx).1
      have es : ((n - l.sum) :: l).sum = n := by rw [List.sum_cons]; omega
      rw [es] at w
      have e1 := lin ((n - l.sum) :: l)
      rw [es] at e1
      have eC2 : C (n - l.sum) = C n1 := by
        obtain ⟨x, x1, x2, x3, x4⟩ := big (n - l.sum) (by omega)
        obtain ⟨y, y1, y2, y3, y4⟩ := big n1 a1
        have : (l.sum + n1) % c = n % c := by rw [← a4, ← l2, Nat.mod_add_mod]
        have d : n1 % c = (n - l.sum) % c := by
          have a : (l.sum + n1) % c = (l.sum + (n - l.sum)) % c := by rw [this]; congr 1; omega
          exact mod_cancel a
        have exy : x = n1 := by
          have e : x % c = n1 % c := x3.trans d.symm
          have h1 : (x - low) % c = (n1 - low) % c := by
            have : (low + (x - low)) % c = (low + (n1 - low)) % c := by
              rw [show low + (x - low) = x by omega, show low + (n1 - low) = n1 by omega]; exact e
            exact mod_cancel this
          rw [Nat.mod_eq_of_lt (by omega), Nat.mod_eq_of_lt (by omega)] at h1
          omega
        rw [← x4, exy]
      have e2 : wCost C ((n - l.sum) :: l) = C n1 + wCost C l := by show C (n - l.sum) + _ = _; rw [eC2]
      have e3 := Int.mul_le_mul_of_nonneg_left w (show (0 : Int) ≤ c by omega)
      have a6 : B (n % c) = C n1 + wCost C l := a6
      omega
    · obtain ⟨l', k1, k2, k3⟩ := hcl.way_ex n
      have e1 := lin l'
      rw [k2, ← k3] at e1
      suffices B (n % c) ≤ wCost C l' by omega
      by_cases z : ∃ q ∈ l', low ≤ q
      · obtain ⟨q, qm, ql⟩ := z
        obtain ⟨la, lb, rfl⟩ := List.append_of_mem qm
        obtain ⟨x, x1, x2, x3, x4⟩ := big q ql
        obtain ⟨l2, q1, q2, q3⟩ := reduce red (la ++ lb) fun p hp => k1 p (by
          rcases List.mem_append.mp hp with z | z
          · exact List.mem_append_left _ z
          · exact List.mem_append_right _ (List.mem_cons_of_mem _ z))
        obtain ⟨V, eV, le⟩ := told.le q1
        have := hB2 _ hr x _ V x1 x2 (Nat.mod_lt _ hc) (by
          rw [Nat.add_mod, Nat.mod_mod, q2, x3, ← Nat.add_mod]
          congr 1
          rw [← k2, List.sum_append, List.sum_append, List.sum_cons]
          omega) eV
        have e2 : wCost C (la ++ q :: lb) = C q + wCost C (la ++ lb) := by
          rw [wCost_append, wCost_append]
          show _ + (C q + _) = _
          omega
        rw [e2, ← x4]
        omega
      · have small : ∀ q ∈ l', 1 ≤ q ∧ q < low := fun q hq => ⟨k1 q hq, by
          apply Classical.byContradiction
          intro w
          exact z ⟨q, hq, by omega⟩⟩
        have hh : ∀ l : List Nat, (∀ q ∈ l, 1 ≤ q ∧ q < low) → dear * (l.sum : Nat) ≤ wCost C l * n := by
          intro l
          induction l with
          | nil => intro _; simp [wCost]
          | cons q l ih =>
            intro hq
            have i := ih fun x hx => hq x (by simp [hx])
            obtain ⟨q1, q2⟩ := hq q (by simp)
            have s := hsm q q1 q2
            have cp := Cpos q q1
            have s2 : C q * (b : Int) ≤ C q * n := Int.mul_le_mul_of_nonneg_left (by omega) (by omega)
            rw [List.sum_cons, Int.natCast_add, Int.mul_add]
            show _ ≤ (C q + wCost C l) * n
            rw [Int.add_mul]
            omega
        have := hh l' small
        rw [k2] at this
        have hb0 : 0 < b := by
          obtain ⟨n1, q, V, a1, a2, a3, a4, a5, a6⟩ := hB1 _ hr
          have := hS _ _ a5
          omega
        have dle := Int.le_of_mul_le_mul_right this (by omega)
        have := hd _ hr
        omega
  intro n hn
  have a1 := key n hn
  have a2 := key (n + c) (by omega)
  rw [Nat.add_mod_right] at a2
  have : (c : Int) * cl (n + c) = c * (cl n + g) := by
    rw [a2, Int.mul_add, a1, Int.natCast_add, Int.mul_add, Int.mul_comm (c : Int) g]
    omega
  exact Int.eq_of_mul_eq_mul_left (by omega) this
end RW
set_option Elab.async false
set_option linter.all false
set_option maxRecDepth 100000
set_option maxHeartbeats 4000000
/-! min(a, b) of two tuples of ints -/
namespace K17
open PySem PySem.Spec PyProof.Rows L2 LamX
section
variable {prog : Program} {w : World} {A : Around} {E : Value → Shared → Prop} {s : Shared}
theorem call_min_twoH {a b : Value} {Q : Value → Shared → Prop}
    (h : wpAny (model prog w) A.in1 (pyIter (.ref s.heap.objs.size)) (fun it s₂ => ∃ I fp wr G n P St H bt, it = .ref I ∧ WalksS prog w A.in1 I fp wr G n P St ∧ St 0 s₂ ∧ (∀ b ∈ fp, b < s₂.heap.objs.size) ∧ 0 < n ∧
      (∀ b o, H.get? b = some o → b ∉ wr) ∧ (∀ b o, H.get? b = some o → s₂.heap.get? b = some o) ∧ CmpIn prog w A.in1 .Lt H P bt ∧ ∀ v s', P (argBest bt (n - 1)) v → Moved wr G s₂ s' → Q v s') E
      { s with heap := s.heap.push { cls := .type "tuple", data := .seq #[a, b] } }) :
    wpAny (model prog w) A (call (.builtin "min") [a, b]) Q E s := by
  have hname : (toString "min" ++ toString ".loop" : String) = "min.loop" := by decide
  refine call_function_tree F.kind_min F.plain_min F.entry_min (F.args_min2 _ _) ?_
  show wpAny _ A.in1 (Builtin.Builtins.bindParams "min" ["key", "default"] 0 ⟨[], []⟩ >>= _) _ _ s
  refine wpAny_bind (wpAny_of_eq (show Builtin.Builtins.bindParams "min" ["key", "default"] 0 ⟨[], []⟩ = pure [none, none] from rfl) ?_)
  show wpAny _ A.in1 (newTuple [a, b] >>= _) _ _ s
  refine wpAny_bind (wpAny_newObj_type ?_)
  refine wpAny_bind (wpAny_mono h (fun it s₂ h₂ => ?_) fun _ _ e => e)
  obtain ⟨I, fp, wr, G, n, P, St, H, bt, rfl, W, hst, hfp, hn, hw, hkeep, hcmp, hQ⟩ := h₂
  refine wpAny_bind (wpAny_newObj_type ?_)
  have hSf : s₂.heap.objs.size ∉ fp := fun hm => Nat.lt_irrefl _ (hfp _ hm)
  rw [hname]
  refine wpAny_pure ⟨plainId_quiet F.plain_min_loop _, codeAny_min_loop_firstH W H hw bt hcmp s₂.heap.objs.size hSf (fresh_in hkeep) _ hn (fun b o e => Heap.get?_push_of_some _ (hkeep b o e)) (W.frame 0 s₂ _ s₂.toks hst (Nat.le_refl _) fun b _ o e => Heap.get?_push_of_some _ e) (Heap.get?_push_size _ rfl) fun v s' hP hm => ?_⟩
  exact hQ v s' hP (Moved.drop_new (tk := s₂.toks) hm (Nat.le_refl _))
end
def rMinT (K : PySem.W.Frag) : List V → Hp → VK → Prop := fun xs H Q => ∃ (a b : Addr) (ns ms : List Int), xs = [.ref a, .ref b] ∧ SqT K H a (ns.map V.int) ∧ SqT K H b (ms.map V.int) ∧ Q (if HT.lexLt ms ns = true then .ref b else .ref a) H
section
variable {X : Cx}
theorem call_minT (hc : X.calm = true) (hu : X.A.units + 64 < cLine) : CallR X (.builtin "min") (rMinT X.K) := by
  intro pins s σ H xs us Q I r h
  obtain ⟨a, b, ns, ms, rfl, ha, hb, q⟩ := h
  obtain ⟨u, v, rfl, ru, rv⟩ := vals2 r
  obtain rfl : u = Value.ref a := ru
  obtain rfl : v = Value.ref b := rv
  obtain ⟨its, r1, p1, _⟩ := I.tuple ha
  obtain ⟨its2, r2, p2, _⟩ := I.tuple hb
  have i1 : IntsAre its.toArray.toList ns := intsAre_of r1
  have i2 : IntsAre its2.toArray.toList ms := intsAre_of r2
  have hT : (s.heap.push { cls := .type "tuple", data := .seq #[.ref a, .ref b] }).IsTuple s.heap.objs.size #[.ref a, .ref b] := ⟨_, Heap.get?_push_size _ rfl, rfl, 0, rfl⟩
  refine call_min_twoH (PySem.W.iter_tupleW (A := X.A.in1) (I.ok.hd hc) hT fun s₂ e W st hfp hw hk => ?_)
  refine ⟨_, _, _, _, _, _, _, _, fun i j => HT.lexLt (if i = 0 then ns else ms) (if j = 0 then ns else ms), rfl, W, st, hfp, Nat.zero_lt_succ _, hw, hk, ?_, fun v s' hP m => ?_⟩
  · intro i j vi vj s' Q' E' hk' hi hj hq
    have t1 : ∀ (x : Addr) (items : Array Value), IsTup s.heap x items → IsTup s'.heap x items := fun x items hx => by
      obtain ⟨o, ho, c⟩ := hx
      exact ⟨o, hk' _ _ (Heap.get?_push_of_some _ ho), c⟩
    have q1 := t1 _ _ p1
    have q2 := t1 _ _ p2
    have hu' : X.A.in1.units < cLine := by show X.A.units + 1 < cLine; omega
    have hi : (#[Value.ref a, Value.ref b] : Array Value)[i]? = some vi := hi
    have hj : (#[Value.ref a, Value.ref b] : Array Value)[j]? = some vj := hj
    match i, j, hi, hj, hq with
    | 0, 0, hi, hj, hq => simp at hi hj; subst hi; subst hj; exact HT.lt_tupInts q1 q1 i1 i1 hu' hq
    | 0, 1, hi, hj, hq => simp at hi hj; subst hi; subst hj; exact HT.lt_tupInts q1 q2 i1 i2 hu' hq
    | 1, 0, hi, hj, hq => simp at hi hj; subst hi; subst hj; exact HT.lt_tupInts q2 q1 i2 i1 hu' hq
    | 1, 1, hi, hj, hq => simp at hi hj; subst hi; subst hj; exact HT.lt_tupInts q2 q2 i2 i2 hu' hq
    | i + 2, _, hi, _, _ => simp at hi
    | _, j + 2, _, hj, _ => simp at hj
  · obtain ⟨h', tk, e2, hk'⟩ := PySem.W.moved_old e rfl m
    subst e2
    have hk2 : ∀ b o, s.heap.get? b = some o → h'.get? b = some o := fun b o z => hk' b o (Heap.get?_push_of_some _ z)
    by_cases z : HT.lexLt ms ns = true
    · rw [if_pos z] at q
      have : v = .ref b := by
        have e3 : argBest (fun i j => HT.lexLt (if i = 0 then ns else ms) (if j = 0 then ns else ms)) (2 - 1) = 1 := by simp [argBest, z]
        have hP : (#[Value.ref a, Value.ref b] : Array Value)[argBest (fun i j => HT.lexLt (if i = 0 then ns else ms) (if j = 0 then ns else ms)) (2 - 1)]? = some v := hP
        rw [e3] at hP
        simpa using hP.symm
      subst this
      exact ⟨.ref b, H, I.kept hk2, rfl, q⟩
    · rw [if_neg z] at q
      have : v = .ref a := by
        have e3 : argBest (fun i j => HT.lexLt (if i = 0 then ns else ms) (if j = 0 then ns else ms)) (2 - 1) = 0 := by simp [argBest, z]
        have hP : (#[Value.ref a, Value.ref b] : Array Value)[argBest (fun i j => HT.lexLt (if i = 0 then ns else ms) (if j = 0 then ns else ms)) (2 - 1)]? = some v := hP
        rw [e3] at hP
        simpa using hP.symm
      subst this
      exact ⟨.ref a, H, I.kept hk2, rfl, q⟩
def rSetD : V → V → V → Hp → (Hp → Prop) → Prop := fun o i v H Q => ∃ a H', o = .ref a ∧ DPut H a i v H' ∧ Q H'
theorem set_dict (hu : X.A.units + 1 < cLine) : PSet X rSetD := by
  intro pins s σ H o i v ov iv u Q I ro ri rv h
  obtain ⟨a, H', rfl, g, q⟩ := h
  cases ro
  exact d_setItem hu I g ri rv fun s' J => ⟨H', J, q⟩
end
end K17
set_option Elab.async false
set_option linter.all false
set_option maxRecDepth 100000
set_option maxHeartbeats 4000000
/-! dicts from rests to pairs -/
namespace K17
open PySem PySem.Spec PyProof.Rows L2 LamX
instance (a b : Int × Nat) : Decidable (RW.lexLt a b) := by unfold RW.lexLt; exact inferInstance
theorem lexLt2 (a b : Int × Nat) : HT.lexLt [a.1, (a.2 : Int)] [b.1, (b.2 : Int)] = decide (RW.lexLt a b) := by
  obtain ⟨a1, a2⟩ := a
  obtain ⟨b1, b2⟩ := b
  by_cases h : RW.lexLt (a1, a2) (b1, b2)
  · rw [decide_eq_true h]
    unfold RW.lexLt at h
    simp only at h
    simp only [HT.lexLt]
    by_cases z : a1 = b1
    · simp [z]; omega
    · simp [z]; omega
  · rw [decide_eq_false h]
    unfold RW.lexLt at h
    simp only at h
    simp only [HT.lexLt]
    by_cases z : a1 = b1
    · simp [z]; omega
    · simp [z]; omega
structure Tab (H : Hp) (kvs : List (L2.Key × V)) (φ : Nat → Option (Int × Nat)) (many : Nat) (rs : List Nat) : Prop where
  ks : kvs.map (·.1) = rs.map fun r : Nat => (Sum.inl (r : Int) : L2.Key)
  nd : rs.Nodup
  bd : ∀ r ∈ rs, r < many
  vl : ∀ r : Nat, (φ r = none ∧ valV kvs (.inl (r : Int)) = none ∧ ¬ r ∈ rs) ∨ ∃ v a, φ r = some v ∧ valV kvs (.inl (r : Int)) = some (.ref a) ∧ H a = some (.tup [.int v.1, .int (v.2 : Int)]) ∧ r ∈ rs
theorem Tab.len {H : Hp} {kvs : List (L2.Key × V)} {φ : Nat → Option (Int × Nat)} {many : Nat} {rs : List Nat} (t : Tab H kvs φ many rs) : kvs.length ≤ many := by
  have e := congrArg List.length t.ks
  rw [List.length_map, List.length_map] at e
  rw [e]
  exact RW.nodup_bounded _ _ t.nd t.bd
theorem Tab.mono {H H' : Hp} {kvs : List (L2.Key × V)} {φ : Nat → Option (Int × Nat)} {many : Nat} {rs : List Nat} (t : Tab H kvs φ many rs) (h : ∀ a xs, H a = some (.tup xs) → H' a = some (.tup xs)) : Tab H' kvs φ many rs :=
  ⟨t.ks, t.nd, t.bd, fun r => (t.vl r).imp id fun ⟨v, a, e1, e2, e3, e4⟩ => ⟨v, a, e1, e2, h _ _ e3, e4⟩⟩
theorem Tab.none {H : Hp} {many : Nat} : Tab H [] (fun _ => none) many [] := ⟨rfl, .nil, fun r h => by (cases h), fun r => .inl ⟨rfl, rfl, by simp⟩⟩
theorem Tab.get {H : Hp} {kvs : List (L2.Key × V)} {φ : Nat → Option (Int × Nat)} {many : Nat} {rs : List Nat} (t : Tab H kvs φ many rs) {r : Nat} (h : r ∈ rs) : ∃ v a, φ r = some v ∧ valV kvs (.inl (r : Int)) = some (.ref a) ∧ H a = some (.tup [.int v.1, .int (v.2 : Int)]) := by
  rcases t.vl r with ⟨_, _, z⟩ | ⟨v, a, e1, e2, e3, _⟩
  · exact absurd h z
  · exact ⟨v, a, e1, e2, e3⟩
theorem Tab.has {H : Hp} {kvs : List (L2.Key × V)} {φ : Nat → Option (Int × Nat)} {many : Nat} {rs : List Nat} (t : Tab H kvs φ many rs) {r : Nat} {v : Int × Nat} (h : φ r = some v) : r ∈ rs := by
  rcases t.vl r with ⟨z, _, _⟩ | ⟨_, _, _, _, _, z⟩
  · rw [h] at z; cases z
  · exact z
theorem putK_keys {κ : Type} [DecidableEq κ] (kvs : List (κ × V)) (k : κ) (v : V) : (putK kvs k v).map (·.1) = if k ∈ kvs.map (·.1) then kvs.map (·.1) else kvs.map (·.1) ++ [k] := by
  unfold putK
  by_cases h : (kvs.any fun kv => decide (kv.1 = k)) = true
  · rw [if_pos h, if_pos, List.map_map]
    · refine List.map_congr_left fun x hx => ?_
      show (if x.1 = k then (x.1, v) else x).1 = x.1
      split <;> rfl
    · rw [List.any_eq_true] at h
      obtain ⟨x, hx, e⟩ := h
      rw [← of_decide_eq_true e]
      exact List.mem_map_of_mem hx
  · rw [if_neg h, if_neg, List.map_append]
    · rfl
    · intro z
      obtain ⟨x, hx, e⟩ := List.mem_map.mp z
      exact h (List.any_eq_true.mpr ⟨x, hx, by simp [e]⟩)
theorem Tab.put {H : Hp} {kvs : List (L2.Key × V)} {φ : Nat → Option (Int × Nat)} {many : Nat} {rs : List Nat} (t : Tab H kvs φ many rs) {r : Nat} {v : Int × Nat} {a : Addr} (hr : r < many) (ha : H a = some (.tup [.int v.1, .int (v.2 : Int)])) :
    Tab H (putK kvs (.inl (r : Int)) (.ref a)) (RW.putF φ r v) many (if r ∈ rs then rs else rs ++ [r]) := by
  have inj : ∀ {a b : Nat}, (Sum.inl (a : Int) : L2.Key) = Sum.inl (b : Int) → a = b := fun h => by injection h with h; omega
  have mem : ∀ q : Nat, (Sum.inl (q : Int) : L2.Key) ∈ kvs.map (·.1) ↔ q ∈ rs := fun q => by
    rw [t.ks]
    constructor
    · intro h
      obtain ⟨x, hx, e⟩ := List.mem_map.mp h
      rw [← inj e]; exact hx
    · intro h; exact List.mem_map_of_mem h
  refine ⟨?_, ?_, ?_, fun q => ?_⟩
  · rw [putK_keys]
    by_cases z : r ∈ rs
    · rw [if_pos ((mem r).mpr z), if_pos z, t.ks]
    · rw [if_neg (fun h => z ((mem r).mp h)), if_neg z, t.ks, List.map_append]; rfl
  · by_cases z : r ∈ rs
    · rw [if_pos z]; exact t.nd
    · rw [if_neg z, List.nodup_append]
      exact ⟨t.nd, by simp, fun x hx y hy => by rw [List.mem_singleton.mp hy]; exact fun e => z (e ▸ hx)⟩
  · intro q hq
    by_cases z : r ∈ rs
    · rw [if_pos z] at hq; exact t.bd q hq
    · rw [if_neg z] at hq
      rcases List.mem_append.mp hq with h | h
      · exact t.bd q h
      · rw [List.mem_singleton.mp h]; exact hr
  · rw [valV_put]
    by_cases z : q = r
    · subst z
      refine .inr ⟨v, a, by simp [RW.putF], by rw [if_pos rfl], ha, ?_⟩
      by_cases z : q ∈ rs
      · rw [if_pos z]; exact z
      · rw [if_neg z]; simp
    · rw [if_neg (fun h => z (inj h))]
      have e : RW.putF φ r v q = φ q := by unfold RW.putF; rw [if_neg z]
      rw [e]
      rcases t.vl q with ⟨h1, h2, h3⟩ | ⟨w, b, h1, h2, h3, h4⟩
      · refine .inl ⟨h1, h2, fun h => ?_⟩
        by_cases y : r ∈ rs
        · rw [if_pos y] at h; exact h3 h
        · rw [if_neg y] at h
          rcases List.mem_append.mp h with h | h
          · exact h3 h
          · exact z (List.mem_singleton.mp h)
      · refine .inr ⟨w, b, h1, h2, h3, ?_⟩
        by_cases y : r ∈ rs
        · rw [if_pos y]; exact h4
        · rw [if_neg y]; exact List.mem_append_left _ h4
end K17
set_option Elab.async false
set_option linter.all false
set_option maxRecDepth 100000
set_option pp.maxSteps 700
set_option maxHeartbeats 4000000
namespace K17
open PySem PySem.Spec PyProof.Rows L2 LamX NdefX
section
variable {P : Program} {w : World} {K : PySem.W.Frag} {mg : Str → Option Value} {base : Heap}
theorem ifT {A B : Prop} (a : A) : if true = true then A else B := by rw [if_pos rfl]; exact a
theorem ifF {A B : Prop} (b : B) : if false = true then A else B := by rw [if_neg Bool.false_ne_true]; exact b
theorem up_none {H : Hp} {b q : Addr} {o : HO} (h : upd H q o b = none) : H b = none := by
  unfold upd at h
  split at h
  · cases h
  · exact h
theorem modc (a m : Nat) : (a : Int) % (m : Int) = ((a % m : Nat) : Int) := rfl
structure CSt (K : PySem.W.Frag) (H H' : Hp) (D F : Addr) (u : HO) (kvs fk : List (L2.Key × V)) (Ar φ : Nat → Option (Int × Nat)) (as rs : List Nat) (C : Nat → Int) (L m : Nat) : Prop where
  g : Gr K H H'
  d : H' D = some u
  f : H' F = some (.dK fk)
  ta : Tab H' kvs Ar m as
  tf : Tab H' fk φ m rs
  so : RW.Sound C L m φ
section
variable {H H' : Hp} {D F p : Addr} {u u' o : HO} {kvs fk : List (L2.Key × V)} {Ar φ : Nat → Option (Int × Nat)} {as rs : List Nat} {C : Nat → Int} {L m : Nat}
theorem CSt.new (c : CSt K H H' D F u kvs fk Ar φ as rs C L m) (h : H' p = none) : CSt K H (upd H' p o) D F u kvs fk Ar φ as rs C L m := by
  have k : ∀ {b x}, H' b = some x → upd H' p o b = some x := fun {b x} e => by rw [upd_ne (ne_of_none e h)]; exact e
  exact ⟨c.g.trans (Ge.new h), k c.d, k c.f, c.ta.mono fun _ _ e => k e, c.tf.mono fun _ _ e => k e, c.so⟩
theorem CSt.setD (c : CSt K H H' D F u kvs fk Ar φ as rs C L m) (nD : H D = none) (ne : F ≠ D) (h1 : ∀ ps, u ≠ .tbl ps) (h2 : ∀ φ, u ≠ .ext φ) (h3 : ∀ xs, u ≠ .tup xs) : CSt K H (upd H' D u') D F u' kvs fk Ar φ as rs C L m := by
  have k : ∀ a xs, H' a = some (.tup xs) → upd H' D u' a = some (.tup xs) := fun a xs e => by
    rw [upd_ne fun z => ?_]
    · exact e
    · rw [z, c.d] at e; exact h3 _ (Option.some.inj e)
  exact ⟨c.g.put nD c.d h1 h2, upd_same, by rw [upd_ne ne]; exact c.f, c.ta.mono k, c.tf.mono k, c.so⟩
theorem CSt.put {r : Nat} {v : Int × Nat} {a : Addr} (c : CSt K H H' D F u kvs fk Ar φ as rs C L m) (nF : H F = none) (ne : F ≠ D) (hr : r < m) (ha : H' a = some (.tup [.int v.1, .int (v.2 : Int)])) (hw : ∃ l, RW.Way L l ∧ l.sum % m = r ∧ v = (RW.wCost C l, l.sum)) :
    CSt K H (upd H' F (.dK (putK fk (.inl (r : Int)) (.ref a)))) D F u kvs (putK fk (.inl (r : Int)) (.ref a)) Ar (RW.putF φ r v) as (if r ∈ rs then rs else rs ++ [r]) C L m := by
  have k : ∀ a' xs, H' a' = some (.tup xs) → upd H' F (.dK (putK fk (.inl (r : Int)) (.ref a))) a' = some (.tup xs) := fun a' xs e => by
    rw [upd_ne fun z => ?_]
    · exact e
    · rw [z, c.f] at e; cases e
  exact ⟨c.g.put nF c.f (by intro _ z; cases z) (by intro _ z; cases z), by rw [upd_ne ne.symm]; exact c.d, upd_same, c.ta.mono k, (c.tf.put hr ha).mono k, c.so.put hw⟩
end
theorem sc_cheapest_by_rests : FnScope ["costs", "many", "arcs", "part", "arc", "found", "is_changed", "rest", "step", "later_one", "other"] ["costs", "many"] (defScope (topS 67)) := ⟨rfl, rfl, rfl, by decide +kernel, rfl, by decide +kernel, by decide +kernel⟩
def spCheap (K : PySem.W.Frag) : Sp := fun vs H Q _ => ∃ (l : Addr) (cs : List Int) (C : Nat → Int) (L m : Nat), vs = [.ref l, .int m] ∧ H l = some (.lst (cs.map V.int)) ∧ cs.length = L ∧ (∀ p, p < L → cs.getD p 0 = C p) ∧ 0 < m ∧ m ≤ 8000000 ∧ 0 < L ∧ L ≤ 16000000 ∧
  (∀ p, 1 ≤ p → p < L → 0 ≤ C p) ∧ ∀ H' D kvs φ rs, Gr K H H' → H D = none → H' D = some (.dK kvs) → Tab H' kvs φ m rs → RW.Told C L m φ → Q (.ref D) H'
theorem ok_cheapest_by_rests (X : Txt K mg) : Ok P w K mg base CX0 5 "cheapest_by_rests" ["costs", "many"] (spCheap K) := by
  refine ok_def0 X 50 rfl sc_cheapest_by_rests (by decide +kernel) (fun vs H Q E h => ?_) (fun _ _ _ _ _ _ us hl => match us, hl with | [_, _], _ => rfl) (fun f cdv A outer s H vs Q E hr h => ?_)
  · obtain ⟨l, cs, C, L, m, rfl, _⟩ := h; rfl
  · obtain ⟨l, cs, C, L, m, rfl, hl, hL, hC, hm, hm2, hL0, hL2, hpos, fin⟩ := h
    have rest : ∃ t, PSs (cxOf CX0 P w K mg base ["costs", "many", "arcs", "part", "arc", "found", "is_changed", "rest", "step", "later_one", "other"] "cheapest_by_rests" (defScope (topS 67)) f cdv A outer s H E).nox ((defBody (topS 67)).drop 2) t ∧
        ∀ (H' : Hp) (D : Addr) (kvs : List (L2.Key × V)) (Ar : Nat → Option (Int × Nat)) (as : List Nat) (j3 j4 : Option V), Gr K H H' → (∀ b, H' b = none → H b = none) → H D = none → H' D = some (.dK kvs) → Tab H' kvs Ar m as → (∀ s, s < m → RW.IsArc C m (L - 1) s (Ar s)) →
          t { nx := fun _ H' => Q .non H', rt := Q } [some (.ref l), some (.int m), some (.ref D), j3, j4, none, none, none, none, none, none] H' := by
      refine ⟨_, (pss_cons (ps_par (i := 5) (j := 6) (by rfl) sc_cheapest_by_rests.nd rfl rfl (by decide) rfl rfl (pa_cons (pe_disp (pps_cons pe_int (pe_tup (pa_cons pe_int (pa_cons pe_int pa_nil))) pps_nil) (by rfl) (by rfl) (fun z => by cases z) (by decide)) (pa_cons pe_bl pa_nil)) (by rfl))
  (pss_cons (ps_while PassesOwn.never (pt_val (pv 6))
  (pss_cons (ps_set (i := 6) sc_cheapest_by_rests.nd rfl (.inl rfl) pe_bl)
  (pss_one (ps_for PassesOwn.never rfl (piL_K (K := K) (pe_callTy (call_list_dK rfl) (by rfl) X.b_list (by decide +kernel) (pa_cons (pv 5) pa_nil))) (pg_name (i := 7) sc_cheapest_by_rests.nd rfl (.inl rfl))
  (pss_one (ps_lock (ps_for PassesOwn.never rfl (pi_keys (pv 2)) (pg_name (i := 8) sc_cheapest_by_rests.nd rfl (.inl rfl))
  (pss_cons (ps_set (i := 9) sc_cheapest_by_rests.nd rfl (.inl rfl) (pe_tup (pa_cons (pe_op op_add (pe_ix (ixT_K (K := K)) (pe_dget (huR hr) (pv 5) (pv 7) (fun _ _ => rfl)) pe_int (fun _ _ => rfl)) (pe_ix (ixT_K (K := K)) (pe_dget (huR hr) (pv 2) (pv 8) (fun _ _ => rfl)) pe_int (fun _ _ => rfl))) (pa_cons (pe_op op_add (pe_ix (ixT_K (K := K)) (pe_dget (huR hr) (pv 5) (pv 7) (fun _ _ => rfl)) pe_int (fun _ _ => rfl)) (pe_ix (ixT_K (K := K)) (pe_dget (huR hr) (pv 2) (pv 8) (fun _ _ => rfl)) pe_int (fun _ _ => rfl))) pa_nil))))
  (pss_cons (ps_set (i := 10) sc_cheapest_by_rests.nd rfl (.inl rfl) (pe_op op_mod (pe_op op_add (pv 7) (pv 8)) (pv 1)))
  (pss_one (ps_if (PW.pt (pw_or (pt_cmp (pc_dnotin (huR hr) (pv 10) (pv 5))) (pw_or1 (pt_cmpR (ltT_K (K := K) hr.units0) (pv 9) (pe_dget (huR hr) (pv 5) (pv 10) (fun _ _ => rfl)) (nomark _)))))
  (pss_one (ps_asg (pe_tup (pa_cons (pv 9) (pa_cons pe_bl pa_nil))) (tup_K (K := K) (pgs_cons (pg_sub (pv 5) (pv 10) (set_dict (huR hr))) (pgs_cons (pg_name (i := 6) sc_cheapest_by_rests.nd rfl (.inl rfl)) pgs_nil)))))
  pss_nil)))))))))))
  (pss_one (ps_ret (pv 5))))), ?_⟩
      intro H' D kvs Ar as j3 j4 gr frs nD hD tab hA
      intro F nF
      have gF : CSt K H (upd H' F (.dK [])) D F (.dK kvs) kvs [] Ar (fun _ => none) as [] C L m := by
        have k : ∀ {b x}, H' b = some x → upd H' F (.dK []) b = some x := fun {b x} e => by rw [upd_ne (ne_of_none e nF)]; exact e
        exact ⟨gr.trans (Ge.new nF), k hD, upd_same, tab.mono fun _ _ e => k e, Tab.none, fun r v e => by cases e⟩
      have nF0 : H F = none := frs F nF
      have neF : F ≠ D := fun z => by rw [z, hD] at nF; cases nF
      generalize upd H' F (.dK []) = H0 at gF ⊢
      refine ⟨by show 2 ≤ sizeLine; decide, fun tp ntp => ?_⟩
      have g1 := gF.new (o := .tup [.int 0, .int 0]) ntp
      have at1 : upd H0 tp (.tup [.int 0, .int 0]) tp = some (.tup [.int ((0, 0) : Int × Nat).1, .int (((0, 0) : Int × Nat).2 : Int)]) := upd_same
      generalize upd H0 tp (.tup [.int 0, .int 0]) = H1 at g1 at1 ⊢
      refine ⟨g1.f, [(.inl 0, .ref tp)], rfl, by simp, _, _, rfl, ?_⟩
      have g2 := g1.put nF0 neF hm at1 ⟨[], by intro _ z; (cases z), by simp, rfl⟩
      have u2 : RW.Upto C L m 0 (RW.putF (fun _ => none) 0 (0, 0)) := fun l hl h0 => by
        cases l with
        | nil => exact ⟨(0, 0), by simp [RW.putF], .inl rfl⟩
        | cons a b => simp at h0
      have e2 : upd H1 F (.dK (putK [] (.inl ((0 : Nat) : Int)) (.ref tp))) = upd H1 F (.dK (mergeK [] [(.inl 0, .ref tp)])) := rfl
      rw [e2] at g2
      generalize upd H1 F (.dK (mergeK [] [(.inl 0, .ref tp)])) = H2 at g2 ⊢
      refine ⟨fun μ σ H2 => ∃ fk φ rs ch j3 j4 j7 j8 j9 j10 k, σ = [some (.ref l), some (.int m), some (.ref D), j3, j4, some (.ref F), some (.bl ch), j7, j8, j9, j10] ∧ CSt K H H2 D F (.dK kvs) kvs fk Ar φ as rs C L m ∧ RW.Upto C L m k φ ∧
        (ch = true → k ≤ m ∧ μ = m + 1 - k) ∧ (ch = false → ∀ r s, r < m → s < m → RW.Stepped Ar φ φ m r s), ⟨m + 1, _, _, _, true, j3, j4, none, none, none, none, 0, rfl, g2, u2, fun _ => ⟨Nat.zero_le _, rfl⟩, fun z => by cases z⟩, fun μ σ H2 hW => ?_⟩
      obtain ⟨fk, φ, rs, ch, j3, j4, j7, j8, j9, j10, k, rfl, cs1, up, hch1, hch2⟩ := hW
      cases ch with
      | false =>
        refine ⟨_, rfl, _, rfl, ifF ?_⟩
        refine ⟨_, rfl, fin H2 F fk φ rs cs1.g nF0 cs1.f cs1.tf ?_⟩
        have all := RW.upto_all hm hL0 hA (fun l hl h0 => up l hl (by omega)) (hch2 rfl) m
        have al := all.full hm hpos (by omega)
        exact ⟨fun r v e => cs1.so.cheap al e, al⟩
      | true =>
        obtain ⟨hk, rfl⟩ := hch1 rfl
        refine ⟨_, rfl, _, rfl, ifT ?_⟩
        refine ⟨_, fun σ' H2 z => ⟨m - k, by omega, z⟩, ?_⟩
        refine ⟨_, rfl, F, fk, rfl, cs1.f, fun q nq => ?_⟩
        have cs2 := cs1.new (o := .lst (fk.map fun kv => kV kv.1)) nq
        have h1 : upd H2 q (.lst (fk.map fun kv => kV kv.1)) q = some (.lst (fk.map fun kv => kV kv.1)) := upd_same
        have eks : (fk.map fun kv => kV kv.1) = rs.map fun r : Nat => V.int (r : Int) := by
          rw [show (fk.map fun kv => kV kv.1) = (fk.map (·.1)).map kV by rw [List.map_map]; rfl, cs1.tf.ks, List.map_map]; rfl
        rw [eks] at cs2 h1 ⊢
        generalize upd H2 q (.lst (rs.map fun r : Nat => V.int (r : Int))) = H3 at cs2 h1 ⊢
        refine ⟨q, rfl, ⟨_, .of h1⟩, ?_⟩
        refine for_listP (K := K) (xs := rs.map fun r : Nat => V.int (r : Int)) (fun j σ H4 => H4 q = some (.lst (rs.map fun r : Nat => V.int (r : Int))) ∧ ∃ fk' ψ rs' ch' j7 j8 j9 j10, σ = [some (.ref l), some (.int m), some (.ref D), j3, j4, some (.ref F), some (.bl ch'), j7, j8, j9, j10] ∧
          CSt K H H4 D F (.dK kvs) kvs fk' Ar ψ as rs' C L m ∧ RW.Below φ ψ ∧ (∀ r ∈ rs.take j, ∀ s, s < m → RW.Stepped Ar φ ψ m r s) ∧ (ch' = false → ψ = φ) ∧ (ch' = true → k + 1 < m))
          ⟨h1, fk, φ, rs, false, _, _, _, _, rfl, cs2, RW.Below.refl φ, by simp, fun _ => rfl, fun z => by cases z⟩ (fun j σ H4 h => h.1) (fun j x σ H4 hx h => ?_) (fun σ H4 h => ?_)
        · obtain ⟨hq, fk', ψ, rs', ch', j7, j8, j9, j10, rfl, cs3, bel, stp, hf1, hf2⟩ := h
          obtain ⟨r, hrj, rfl⟩ : ∃ r : Nat, rs[j]? = some r ∧ x = V.int r := by
            rw [List.getElem?_map] at hx
            cases e : rs[j]? with
            | none => rw [e] at hx; cases hx
            | some a => rw [e] at hx; cases hx; exact ⟨a, rfl, rfl⟩
          have rm : r ∈ rs := List.mem_of_getElem? hrj
          have hrm := cs1.tf.bd r rm
          have tk : rs.take (j + 1) = rs.take j ++ [r] := by rw [List.take_add_one, hrj]; rfl
          refine ⟨D, .dK kvs, cs3.d, True.intro, fun od => ?_⟩
          have cs4 := cs3.setD (u' := .frz od (.dK kvs)) nD neF (by intro _ z; cases z) (by intro _ z; cases z) (by intro _ z; cases z)
          have hq4 : upd H4 D (.frz od (.dK kvs)) q = some (.lst (rs.map fun r : Nat => V.int (r : Int))) := by
            rw [upd_ne fun z => by rw [z, cs3.d] at hq; cases hq]; exact hq
          generalize upd H4 D (.frz od (.dK kvs)) = H5 at cs4 hq4 ⊢
          refine ⟨_, rfl, D, od, rfl, .inl ⟨kvs, cs4.d, ?_⟩⟩
          refine for_any (n := kvs.length) (fun i σ H6 => H6 q = some (.lst (rs.map fun r : Nat => V.int (r : Int))) ∧ ∃ fk' ψ rs' ch' j8 j9 j10, σ = [some (.ref l), some (.int m), some (.ref D), j3, j4, some (.ref F), some (.bl ch'), some (.int r), j8, j9, j10] ∧
            CSt K H H6 D F (.frz od (.dK kvs)) kvs fk' Ar ψ as rs' C L m ∧ RW.Below φ ψ ∧ (∀ r ∈ rs.take j, ∀ s, s < m → RW.Stepped Ar φ ψ m r s) ∧ (∀ s ∈ as.take i, RW.Stepped Ar φ ψ m r s) ∧ (ch' = false → ψ = φ) ∧ (ch' = true → k + 1 < m))
            ⟨hq4, fk', ψ, rs', ch', _, _, _, rfl, cs4, bel, stp, by simp, hf1, hf2⟩ (fun i σ H6 hi h => ⟨h.2.choose_spec.choose_spec.choose_spec.choose_spec.choose_spec.choose_spec.choose_spec.2.1.d, hi⟩) (fun σ H6 h => ⟨h.2.choose_spec.choose_spec.choose_spec.choose_spec.choose_spec.choose_spec.choose_spec.2.1.d, Nat.le_refl _⟩) (fun i x σ H6 H7 hi h hy => ?_) (fun σ H6 h => ?_)
          · obtain ⟨hq6, fk', ψ, rs', ch', j8, j9, j10, rfl, cs5, bel, stp, stp2, hf1, hf2⟩ := h
            obtain ⟨rfl, ke, v, hkv, rfl⟩ := hy
            obtain ⟨st, hst, rfl⟩ : ∃ st : Nat, as[i]? = some st ∧ ke = .inl (st : Int) := by
              have e := congrArg (fun l => l[i]?) tab.ks
              simp only [List.getElem?_map, hkv, Option.map_some] at e
              cases e2 : as[i]? with
              | none => rw [e2] at e; cases e
              | some a => rw [e2] at e; exact ⟨a, rfl, Option.some.inj e⟩
            have sm : st ∈ as := List.mem_of_getElem? hst
            have hsm := tab.bd st sm
            have tk2 : as.take (i + 1) = as.take i ++ [st] := by rw [List.take_add_one, hst]; rfl
            obtain ⟨v0, _, ev0, _, _⟩ := cs1.tf.get rm
            obtain ⟨v1, ev1, le1⟩ := bel r v0 ev0
            obtain ⟨_, a1, q1, ea1, h1⟩ := cs5.tf.get (cs5.tf.has ev1)
            rw [ev1] at q1; cases q1
            obtain ⟨av, a2, eav, ea2, h2⟩ := cs5.ta.get sm
            have getF : DGet H7 F (.int (r : Int)) (some (.ref a1)) := by
              have := DGet.k (k := .inl (r : Int)) cs5.f
              rw [ea1] at this; exact this
            have getD : DGet H7 D (.int (st : Int)) (some (.ref a2)) := .inl ⟨kvs, .inl (st : Int), .inr ⟨od, cs5.d⟩, rfl, ea2.symm⟩
            refine ⟨_, rfl, _, rfl, F, .ref a1, rfl, getF, a1, _, _, _, rfl, rfl, .of h1, rfl, ?_⟩
            refine ⟨_, rfl, _, rfl, D, .ref a2, rfl, getD, a2, _, _, _, rfl, rfl, .of h2, rfl, ?_⟩
            refine ⟨_, _, rfl, rfl, ?_⟩
            refine ⟨_, rfl, _, rfl, F, .ref a1, rfl, getF, a1, _, _, _, rfl, rfl, .of h1, rfl, ?_⟩
            refine ⟨_, rfl, _, rfl, D, .ref a2, rfl, getD, a2, _, _, _, rfl, rfl, .of h2, rfl, ?_⟩
            refine ⟨_, _, rfl, rfl, ?_⟩
            refine ⟨by show 2 ≤ sizeLine; decide, fun tp ntp => ?_⟩
            have cs6 := cs5.new (o := .tup [.int (v1.1 + av.1), .int ((v1.2 : Int) + (av.2 : Int))]) ntp
            have at1 : upd H7 tp (.tup [.int (v1.1 + av.1), .int ((v1.2 : Int) + (av.2 : Int))]) tp = some (.tup [.int (RW.addP v1 av).1, .int ((RW.addP v1 av).2 : Int)]) := upd_same
            have hq7 : upd H7 tp (.tup [.int (v1.1 + av.1), .int ((v1.2 : Int) + (av.2 : Int))]) q = some (.lst (rs.map fun r : Nat => V.int (r : Int))) := by rw [upd_ne (ne_of_none hq6 ntp)]; exact hq6
            generalize upd H7 tp (.tup [.int (v1.1 + av.1), .int ((v1.2 : Int) + (av.2 : Int))]) = H8 at cs6 at1 hq7 ⊢
            refine ⟨_, rfl, _, rfl, _, _, rfl, rfl, _, rfl, _, _, rfl, rfl, by omega, ?_⟩
            have hom : (r + st) % m < m := Nat.mod_lt _ hm
            have way := cs6.so.arc hL0 hA hsm ev1 eav
            -- what is so when the entry is written
            have took : (∀ w, ψ ((r + st) % m) = some w → RW.lexLt (RW.addP v1 av) w) → k + 1 < m ∧ RW.Below ψ (RW.putF ψ ((r + st) % m) (RW.addP v1 av)) ∧ RW.Stepped Ar φ (RW.putF ψ ((r + st) % m) (RW.addP v1 av)) m r st := fun h => by
              have b := RW.Below.put h
              refine ⟨?_, b, fun v a e1 e2 => ?_⟩
              · apply Classical.byContradiction
                intro z
                obtain ⟨lw, w1, w2, w3⟩ := way
                obtain ⟨x, ex, lx⟩ := up.full hm hpos (by omega) lw w1
                rw [w2] at ex
                obtain ⟨y, ey, ly⟩ := bel _ _ ex
                have := h y ey
                rw [w3] at this
                rcases ly.trans lx with q | q
                · rw [q] at this; exact RW.lexLt.irrefl this
                · exact RW.lexLt.irrefl (this.trans q)
              · rw [ev0] at e1; cases e1
                rw [eav] at e2; cases e2
                exact ⟨_, by simp [RW.putF], le1.add (.inl rfl)⟩
            rcases cs6.tf.vl ((r + st) % m) with ⟨e1, e2, e3⟩ | ⟨ow, oa, e1, e2, e3, e4⟩
            · have getN : DGet H8 F (.int ((((r + st) % m : Nat)) : Int)) none := by
                have := DGet.k (k := .inl (((r + st) % m : Nat) : Int)) cs6.f
                rw [e2] at this; exact this
              refine ⟨_, rfl, _, rfl, F, none, rfl, getN, _, rfl, ifT (ifT ?_)⟩
              refine ⟨_, rfl, by show 2 ≤ sizeLine; decide, fun tp2 ntp2 => ?_⟩
              have cs7 := cs6.new (o := .tup [.ref tp, .bl true]) ntp2
              have at2 : upd H8 tp2 (.tup [.ref tp, .bl true]) tp = some (.tup [.int (RW.addP v1 av).1, .int ((RW.addP v1 av).2 : Int)]) := by rw [upd_ne (ne_of_none at1 ntp2)]; exact at1
              have hq8 : upd H8 tp2 (.tup [.ref tp, .bl true]) q = some (.lst (rs.map fun r : Nat => V.int (r : Int))) := by rw [upd_ne (ne_of_none hq7 ntp2)]; exact hq7
              have at3 : upd H8 tp2 (.tup [.ref tp, .bl true]) tp2 = some (.tup [.ref tp, .bl true]) := upd_same
              generalize upd H8 tp2 (.tup [.ref tp, .bl true]) = H9 at cs7 at2 hq8 at3 ⊢
              refine ⟨tp2, _, rfl, .of at3, rfl, _, _, rfl, ?_⟩
              refine ⟨_, rfl, _, rfl, F, _, rfl, DPut.k (k := .inl (((r + st) % m : Nat) : Int)) cs7.f (by have := cs7.tf.len; exact sizedL (by omega)), ?_⟩
              refine ⟨_, _, rfl, rfl, ?_⟩
              obtain ⟨b1, b2, b3⟩ := took (fun w z => by rw [e1] at z; cases z)
              refine ⟨?_, _, _, _, true, _, _, _, rfl, cs7.put nF0 neF hom at2 way, bel.trans b2, fun r' hr' s hs => (stp r' hr' s hs).below b2, fun s hs => ?_, fun z => (by cases z), fun _ => b1⟩
              · rw [upd_ne fun z => by rw [z, cs7.f] at hq8; cases hq8]; exact hq8
              · rw [tk2] at hs
                rcases List.mem_append.mp hs with z | z
                · exact (stp2 s z).below b2
                · rw [List.mem_singleton.mp z]; exact b3
            · have getO : DGet H8 F (.int ((((r + st) % m : Nat)) : Int)) (some (.ref oa)) := by
                have := DGet.k (k := .inl (((r + st) % m : Nat) : Int)) cs6.f
                rw [e2] at this; exact this
              refine ⟨_, rfl, _, rfl, F, some (.ref oa), rfl, getO, _, rfl, ifF ?_⟩
              refine ⟨_, rfl, _, rfl, _, rfl, F, .ref oa, rfl, getO, ?_⟩
              refine ⟨tp, oa, [(RW.addP v1 av).1, (RW.addP v1 av).2], [ow.1, ow.2], rfl, rfl, .of at1, .of e3, ?_⟩
              rw [lexLt2]
              refine ⟨_, rfl, iteD (fun h => ?_) (fun h => ?_)⟩
              · refine ⟨_, rfl, by show 2 ≤ sizeLine; decide, fun tp2 ntp2 => ?_⟩
                have cs7 := cs6.new (o := .tup [.ref tp, .bl true]) ntp2
                have at2 : upd H8 tp2 (.tup [.ref tp, .bl true]) tp = some (.tup [.int (RW.addP v1 av).1, .int ((RW.addP v1 av).2 : Int)]) := by rw [upd_ne (ne_of_none at1 ntp2)]; exact at1
                have hq8 : upd H8 tp2 (.tup [.ref tp, .bl true]) q = some (.lst (rs.map fun r : Nat => V.int (r : Int))) := by rw [upd_ne (ne_of_none hq7 ntp2)]; exact hq7
                have at3 : upd H8 tp2 (.tup [.ref tp, .bl true]) tp2 = some (.tup [.ref tp, .bl true]) := upd_same
                generalize upd H8 tp2 (.tup [.ref tp, .bl true]) = H9 at cs7 at2 hq8 at3 ⊢
                refine ⟨tp2, _, rfl, .of at3, rfl, _, _, rfl, ?_⟩
                refine ⟨_, rfl, _, rfl, F, _, rfl, DPut.k (k := .inl (((r + st) % m : Nat) : Int)) cs7.f (by have := cs7.tf.len; exact sizedL (by omega)), ?_⟩
                refine ⟨_, _, rfl, rfl, ?_⟩
                obtain ⟨b1, b2, b3⟩ := took (fun w z => by rw [e1] at z; cases z; exact h)
                refine ⟨?_, _, _, _, true, _, _, _, rfl, cs7.put nF0 neF hom at2 way, bel.trans b2, fun r' hr' s hs => (stp r' hr' s hs).below b2, fun s hs => ?_, fun z => (by cases z), fun _ => b1⟩
                · rw [upd_ne fun z => by rw [z, cs7.f] at hq8; cases hq8]; exact hq8
                · rw [tk2] at hs
                  rcases List.mem_append.mp hs with z | z
                  · exact (stp2 s z).below b2
                  · rw [List.mem_singleton.mp z]; exact b3
              · refine ⟨hq7, _, _, _, _, _, _, _, rfl, cs6, bel, stp, fun s hs => ?_, hf1, hf2⟩
                rw [tk2] at hs
                rcases List.mem_append.mp hs with z | z
                · exact stp2 s z
                · rw [List.mem_singleton.mp z]
                  intro v a q1 q2
                  rw [ev0] at q1; cases q1
                  rw [eav] at q2; cases q2
                  refine ⟨ow, e1, ?_⟩
                  have la : RW.lexLe (RW.addP v1 av) (RW.addP v0 av) := le1.add (.inl rfl)
                  rcases RW.lex_total ow (RW.addP v1 av) with y | y
                  · exact y.trans la
                  · exact absurd y h
          · obtain ⟨hq6, fk', ψ, rs', ch', j8, j9, j10, rfl, cs5, bel, stp, stp2, hf1, hf2⟩ := h
            have ask : kvs.length = as.length := by have := congrArg List.length tab.ks; simpa using this
            rw [ask, List.take_length] at stp2
            refine ⟨cs5.d, ?_, fk', ψ, rs', ch', _, _, _, _, rfl, cs5.setD nD neF (by intro _ z; cases z) (by intro _ z; cases z) (by intro _ z; cases z), bel, fun r' hr' s hs => ?_, hf1, hf2⟩
            · rw [upd_ne fun z => by rw [z, cs5.d] at hq6; cases hq6]; exact hq6
            · rw [tk] at hr'
              rcases List.mem_append.mp hr' with z | z
              · exact stp r' z s hs
              · rw [List.mem_singleton.mp z]
                exact fun v a e1 e2 => stp2 s (tab.has e2) v a e1 e2
        · obtain ⟨hq, fk', ψ, rs', ch', j7, j8, j9, j10, rfl, cs3, bel, stp, hf1, hf2⟩ := h
          rw [List.length_map, List.take_length] at stp
          have st : ∀ r s, r < m → s < m → RW.Stepped Ar φ ψ m r s := fun r s _ hs v a e1 e2 => stp r (cs1.tf.has e1) s hs v a e1 e2
          refine ⟨fk', ψ, rs', ch', _, _, _, _, _, _, k + 1, rfl, cs3, up.step hm hL0 hA bel st, fun z => ⟨by have := hf2 z; omega, by omega⟩, fun z => ?_⟩
          rw [hf1 z] at st ⊢
          exact st
    obtain ⟨tr, htr, hrest⟩ := rest
    refine ⟨_, (pss_cons (ps_set (i := 2) sc_cheapest_by_rests.nd rfl (.inl rfl) (pe_dnewK))
  (pss_cons (ps_for PassesOwn.never rfl (pi_range2 (by rfl) X.b_range (pa_cons pe_int (pa_cons (pe_callB (len_K (K := K)) (by rfl) X.b_len (by decide +kernel) (pa_cons (pv 0) pa_nil)) pa_nil))) (pg_name (i := 3) sc_cheapest_by_rests.nd rfl (.inl rfl))
  (pss_cons (ps_set (i := 4) sc_cheapest_by_rests.nd rfl (.inl rfl) (pe_tup (pa_cons (pe_ix (ixL_K (K := K)) (pv 0) (pv 3) (fun _ _ => rfl)) (pa_cons (pv 3) pa_nil))))
  (pss_one (ps_dput (huR hr) (pv 2) (pe_op op_mod (pv 3) (pv 1)) (pe_callB (call_minT rfl hr.units) (by rfl) X.b_min (by decide +kernel) (pa_cons (pv 4) (pa_cons (pe_dget2 (huR hr) (pv 2) (pe_op op_mod (pv 3) (pv 1)) (pv 4) ⟨rfl, rfl, rfl, rfl⟩) pa_nil))) rfl))))
  htr)), ?_⟩
    intro D nD
    have gD : Gr K H (upd H D (.dK [])) := Ge.new nD
    have hD0 : upd H D (.dK []) D = some (.dK []) := upd_same
    have fD : ∀ b, upd H D (.dK []) b = none → H b = none := fun b h => up_none h
    generalize upd H D (.dK []) = H0 at gD hD0 fD ⊢
    refine ⟨_, rfl, l, _, rfl, .inl (.of (gD.lst hl)), ?_⟩
    rw [List.length_map, hL]
    refine ⟨1, (L : Int), rfl, ⟨by omega, by omega, by omega, by omega⟩, ?_⟩
    refine for_any (n := L - 1) (fun i σ H4 => Gr K H H4 ∧ (∀ b, H4 b = none → H b = none) ∧ (∃ j3 j4, σ = [some (.ref l), some (.int m), some (.ref D), j3, j4, none, none, none, none, none, none]) ∧
      ∃ kvs Ar as, H4 D = some (.dK kvs) ∧ Tab H4 kvs Ar m as ∧ ∀ s, s < m → RW.IsArc C m i s (Ar s))
      ⟨gD, fD, ⟨none, none, rfl⟩, [], _, [], hD0, Tab.none, fun s _ => RW.IsArc.zero⟩ (fun i σ H2 hi h => by show i < _; omega) (fun σ H2 h => by show _ ≤ L - 1; omega) (fun i x σ H4 H5 hi h hy => ?_) (fun σ H4 h => ?_)
    · obtain ⟨g4, f4, ⟨j3, j4, rfl⟩, kvs, Ar, as, h4, tab, hA⟩ := h
      obtain ⟨rfl, rfl⟩ := hy
      obtain ⟨n, en⟩ : ∃ n, n = i + 1 := ⟨_, rfl⟩
      rw [show (1 : Int) + (i : Int) = (n : Int) by omega]
      have hlt : n < L := by omega
      refine ⟨_, rfl, _, rfl, l, _, _, _, rfl, rfl, .of (g4.lst hl), atID (i := n) (by omega), ?_⟩
      rw [hC n hlt]
      refine ⟨_, rfl, by show 2 ≤ sizeLine; decide, fun tp ntp => ?_⟩
      have g5 : Gr K H (upd H5 tp (.tup [.int (C n), .int n])) := g4.trans (Ge.new ntp)
      have at1 : upd H5 tp (.tup [.int (C n), .int n]) tp = some (.tup [.int (C n), .int n]) := upd_same
      have tab1 := tab.mono (H' := upd H5 tp (.tup [.int (C n), .int n])) fun a xs e => by rw [upd_ne (ne_of_none e ntp)]; exact e
      have h5 : upd H5 tp (.tup [.int (C n), .int n]) D = some (.dK kvs) := by rw [upd_ne (ne_of_none h4 ntp)]; exact h4
      have f5 : ∀ b, upd H5 tp (.tup [.int (C n), .int n]) b = none → H b = none := fun b h => f4 b (up_none h)
      generalize upd H5 tp (.tup [.int (C n), .int n]) = H6 at g5 at1 tab1 h5 f5 ⊢
      have hs : n % m < m := Nat.mod_lt _ hm
      have hAn := hA _ hs
      refine ⟨_, rfl, _, rfl, D, rfl, .inl ⟨kvs, .inl h5⟩, _, rfl, _, rfl, _, _, rfl, rfl, by omega, _, rfl, _, DGet.k (k := .inl ((n % m : Nat) : Int)) h5, ?_⟩
      have fin : ∀ (a : Addr) (v : Int × Nat), H6 a = some (.tup [.int v.1, .int (v.2 : Int)]) → (v = (C n, n) ∨ Ar (n % m) = some v) → RW.lexLe v (C n, n) → (∀ w, Ar (n % m) = some w → RW.lexLe v w) →
          Gr K H (upd H6 D (.dK (putK kvs (.inl ((n % m : Nat) : Int)) (.ref a)))) ∧ (∀ b, upd H6 D (.dK (putK kvs (.inl ((n % m : Nat) : Int)) (.ref a))) b = none → H b = none) ∧ (∃ j3 j4, [some (V.ref l), some (.int m), some (.ref D), some (.int n), some (.ref tp), none, none, none, none, none, none] = [some (.ref l), some (.int m), some (.ref D), j3, j4, none, none, none, none, none, none]) ∧
          ∃ kvs' Ar as, upd H6 D (.dK (putK kvs (.inl ((n % m : Nat) : Int)) (.ref a))) D = some (.dK kvs') ∧ Tab (upd H6 D (.dK (putK kvs (.inl ((n % m : Nat) : Int)) (.ref a)))) kvs' Ar m as ∧ ∀ s, s < m → RW.IsArc C m (i + 1) s (Ar s) := by
        intro a v ha h1 h2 h3
        refine ⟨g5.put nD h5 (by intro _ z; cases z) (by intro _ z; cases z), fun b h => f5 b (up_none h), ⟨_, _, rfl⟩, _, _, _, upd_same, (tab1.put hs ha).mono fun b xs e => ?_, fun s hsm => ?_⟩
        · rw [upd_ne fun z => ?_]
          · exact e
          · rw [z, h5] at e; cases e
        · unfold RW.putF
          by_cases z : s = n % m
          · rw [if_pos z]
            subst z
            rw [en] at h1 h2 h3 hAn ⊢
            exact hAn.next rfl h1 h2 h3
          · rw [if_neg z]
            exact (hA s hsm).skip (by rw [← en]; exact fun q => z q.symm)
      rcases tab1.vl (n % m) with ⟨e1, e2, _⟩ | ⟨v, a, e1, e2, e3, _⟩
      · rw [e2]
        refine ⟨tp, tp, [C n, n], [C n, n], rfl, .of at1, .of at1, ?_⟩
        rw [show (if HT.lexLt [C n, (n : Int)] [C n, (n : Int)] = true then V.ref tp else .ref tp) = .ref tp by split <;> rfl]
        refine ⟨_, rfl, _, rfl, _, rfl, _, _, rfl, rfl, by omega, D, _, rfl, DPut.k (k := .inl ((n % m : Nat) : Int)) h5 (by have := tab1.len; exact sizedL (by omega)), ?_⟩
        exact fin tp (C n, n) at1 (.inl rfl) (.inl rfl) fun w z => by rw [e1] at z; cases z
      · rw [e2]
        refine ⟨tp, a, [C n, n], [v.1, v.2], rfl, .of at1, .of e3, ?_⟩
        have e4 : HT.lexLt [v.1, (v.2 : Int)] [C n, (n : Int)] = decide (RW.lexLt v (C n, n)) := lexLt2 v (C n, n)
        rw [e4]
        by_cases z : RW.lexLt v (C n, n)
        · rw [if_pos (decide_eq_true z)]
          refine ⟨_, rfl, _, rfl, _, rfl, _, _, rfl, rfl, by omega, D, _, rfl, DPut.k (k := .inl ((n % m : Nat) : Int)) h5 (by have := tab1.len; exact sizedL (by omega)), ?_⟩
          exact fin a v e3 (.inr e1) (.inr z) fun w q => by rw [e1] at q; cases q; exact .inl rfl
        · rw [if_neg (by simpa using z)]
          refine ⟨_, rfl, _, rfl, _, rfl, _, _, rfl, rfl, by omega, D, _, rfl, DPut.k (k := .inl ((n % m : Nat) : Int)) h5 (by have := tab1.len; exact sizedL (by omega)), ?_⟩
          refine fin tp (C n, n) at1 (.inl rfl) (.inl rfl) fun w q => ?_
          rw [e1] at q; cases q
          rcases RW.lex_total (C n, n) v with y | y
          · exact y
          · exact absurd y z
    · obtain ⟨g4, f4, ⟨j3, j4, rfl⟩, kvs, Ar, as, h4, tab, hA⟩ := h
      exact hrest H4 D kvs Ar as j3 j4 g4 f4 nD h4 tab hA
end
end K17
set_option Elab.async false
set_option linter.all false
set_option maxRecDepth 100000
set_option maxHeartbeats 4000000
/-! comprehensions over enumerate and over a dict's keys -/
namespace K17
open PySem PySem.Spec PyProof.Rows L2 LamX
section
variable {K : PySem.W.Frag} {g : TG} {te : TE} {vs : List Nat} {σ : L2.St} {H1 : Hp} {D : Addr} {Qd : Hp → Prop}
theorem lc_enum {a : Addr} {xs : List V} (F : Nat → V) (hD : H1 D = none) (hl : SqL K H1 a xs) (hn : xs.length ≤ 16777216)
    (hs : ∀ i x T H (Q : VK), xs[i]? = some x → Gr K H1 H → H T = some (.tup [.int (i : Nat), x]) → (∀ H4, Gr K H H4 → Q (F i) H4) → g (.ref T) (wipe σ vs) H fun σ2 H2 => wipe σ2 vs = wipe σ vs ∧ te σ2 H2 Q)
    (hd : ∀ H, Gr K H1 H → H D = some (.lst ((List.range xs.length).map F)) → Qd H) :
    ∃ W : Nat → Nat → Hp → Prop, (∃ m, W 0 m (upd H1 D (.lst []))) ∧ ∀ i m H, W i m H →
      ((Ite K a).stop i H ∧ Qd H) ∨ ((Ite K a).go i H ∧ ∃ Nx : Hp → Prop, (∀ H', Nx H' → ∃ m', m' < m ∧ W (i + 1) m' H') ∧ ∀ x H', (Ite K a).yld i H x H' → g x (wipe σ vs) H' fun σ2 H2 => wipe σ2 vs = wipe σ vs ∧ tYes σ2 H2 fun b H3 =>
        if b = true then te σ2 H3 fun y H4 => ∃ acc, H4 D = some (.lst acc) ∧ acc.length < sizeLine ∧ Nx (upd H4 D (.lst (acc ++ [y]))) else Nx H3) := by
  have at_ : ∀ i, i < xs.length → xs[i]? = some (xs.getD i .non) := fun i hi => by rw [List.getD, List.getElem?_eq_getElem hi]; rfl
  refine lc_any (n := xs.length) (fun i H => i ≤ xs.length ∧ Gr K H1 H ∧ H D = some (.lst ((List.range i).map F))) ⟨Nat.zero_le _, Ge.new hD, upd_same⟩ (fun i H hi hP => ⟨xs, _, hP.2.1.sqL hl, at_ i hi⟩) (fun H hP => ⟨xs, hP.2.1.sqL hl, Nat.le_refl _⟩) (fun i x H H' hi hP hyl => ?_) (fun H hP => hd H hP.2.1 hP.2.2)
  obtain ⟨T, y, rfl, nT, rfl, hy⟩ := hyl
  have ey := hy xs (hP.2.1.sqL hl)
  have gT : Gr K H1 (upd H T (.tup [.int (i : Nat), y])) := hP.2.1.trans (Ge.new nT)
  have hP2 : upd H T (.tup [.int (i : Nat), y]) D = some (.lst ((List.range i).map F)) := by rw [upd_ne (ne_of_none hP.2.2 nT)]; exact hP.2.2
  refine hs i y T _ (fun y H4 => ∃ acc, H4 D = some (.lst acc) ∧ acc.length < sizeLine ∧ (i + 1 ≤ xs.length ∧ Gr K H1 (upd H4 D (.lst (acc ++ [y]))) ∧ upd H4 D (.lst (acc ++ [y])) D = some (.lst ((List.range (i + 1)).map F)))) ey gT upd_same fun H4 g4 => ?_
  refine ⟨_, g4.lst hP2, ?_, hi, (gT.trans g4).put hD (g4.lst hP2) (by intro _ z; cases z) (by intro _ z; cases z), ?_⟩
  · rw [List.length_map, List.length_range]; exact sizedL (by omega)
  · rw [upd_same, range_snoc]
theorem lc_keys {d : Addr} {od : Obj} {kvs : List (L2.Key × V)} {φ : Nat → Option (Int × Nat)} {many : Nat} {rs : List Nat} (t : Tab H1 kvs φ many rs) (F : Nat → V) (hD : H1 D = none) (hd0 : H1 d = some (.frz od (.dK kvs))) (hn : many ≤ 16777216)
    (hs : ∀ (i r : Nat) (H : Hp) (Q : VK), rs[i]? = some r → Gr K H1 H → (∀ H4, Gr K H H4 → Q (F r) H4) → g (.int (r : Nat)) (wipe σ vs) H fun σ2 H2 => wipe σ2 vs = wipe σ vs ∧ te σ2 H2 Q)
    (hd : ∀ H, Gr K H1 H → H D = some (.lst (rs.map F)) → Qd H) :
    ∃ W : Nat → Nat → Hp → Prop, (∃ m, W 0 m (upd H1 D (.lst []))) ∧ ∀ i m H, W i m H →
      ((Itk d od kvs).stop i H ∧ Qd H) ∨ ((Itk d od kvs).go i H ∧ ∃ Nx : Hp → Prop, (∀ H', Nx H' → ∃ m', m' < m ∧ W (i + 1) m' H') ∧ ∀ x H', (Itk d od kvs).yld i H x H' → g x (wipe σ vs) H' fun σ2 H2 => wipe σ2 vs = wipe σ vs ∧ tYes σ2 H2 fun b H3 =>
        if b = true then te σ2 H3 fun y H4 => ∃ acc, H4 D = some (.lst acc) ∧ acc.length < sizeLine ∧ Nx (upd H4 D (.lst (acc ++ [y]))) else Nx H3) := by
  have e := congrArg List.length t.ks
  rw [List.length_map, List.length_map] at e
  have hlen := t.len
  have at_ : ∀ i, i < rs.length → rs[i]? = some (rs.getD i 0) := fun i hi => by rw [List.getD, List.getElem?_eq_getElem hi]; rfl
  refine lc_map (n := kvs.length) (fun i => F (rs.getD i 0)) (fun i => .int (rs.getD i 0 : Nat)) hD (by omega) (fun i H hi g => ⟨g.at hd0, hi⟩) (fun H g => ⟨g.at hd0, Nat.le_refl _⟩) (fun i H x H' hi g h => ?_) (fun i H Q hi g q => hs i _ H Q (at_ i (by omega)) g q) (fun H g h => hd H g ?_)
  · obtain ⟨rfl, ke, v, hkv, rfl⟩ := h
    refine ⟨rfl, ?_⟩
    have e := congrArg (fun l => l[i]?) t.ks
    simp only [List.getElem?_map, hkv, Option.map_some] at e
    rw [at_ i (by omega)] at e
    rw [Option.some.inj e]; rfl
  · rw [h]
    congr 2
    refine List.ext_getElem (by simp [e]) fun i h1 h2 => ?_
    simp at h1 h2
    simp [List.getD, List.getElem?_eq_getElem h2]
end
end K17
set_option linter.all false
/-! Rows' mathematics, L: the slope, the sizes. -/
namespace RW
theorem slope_of {f : Nat → Int} {c h k : Nat} {g : Int} (hc : 0 < c) (hg : Gains f c g h) (mean : ∀ n : Nat, 1 ≤ n → f k * n ≤ f n * k) : f k * c ≤ g * k := by
  apply Classical.byContradiction
  intro z
  have z : g * k + 1 ≤ f k * c := by omega
  obtain ⟨b, hb⟩ : ∃ b : Int, b = f (h + 1) * k - f k * ((h + 1 : Nat) : Int) := ⟨_, rfl⟩
  obtain ⟨j, hj⟩ : ∃ j : Nat, b < j := ⟨b.toNat + 1, by omega⟩
  have m := mean (h + 1 + j * c) (by omega)
  have e := (hg.mul' j) (h + 1) (by omega)
  rw [Nat.mul_comm c j] at e
  rw [e, Int.natCast_add, Int.mul_add, Int.add_mul] at m
  have e1 : f k * ((j * c : Nat) : Int) = j * (f k * c) := by rw [Int.natCast_mul, ← Int.mul_assoc, Int.mul_comm (f k), Int.mul_assoc]
  have e2 : (j : Int) * g * k = j * (g * k) := Int.mul_assoc ..
  have e3 : (j : Int) * (g * k + 1) ≤ j * (f k * c) := Int.mul_le_mul_of_nonneg_left z (by omega)
  rw [Int.mul_add, Int.mul_one] at e3
  omega
/-- the sum of a cheapest way's parts is small -/
theorem Cheap.small {C : Nat → Int} {L many r : Nat} {v : Int × Nat} (hm : 0 < many) (hL : 0 < L) (h0 : ∀ p, 1 ≤ p → p < L → 0 ≤ C p) (h : Cheap C L many r v) : v.2 ≤ many * L ∧ 0 ≤ v.1 ∧ ∀ B : Int, 0 ≤ B → (∀ p, 1 ≤ p → p < L → C p ≤ B) → v.1 ≤ many * B := by
  obtain ⟨⟨l, a, b, e⟩, c⟩ := h
  obtain ⟨l', a', b', c', d'⟩ := short_way (f := C) hm h0 a
  have x := c l' b' (by rw [c', b])
  rw [← e] at d'
  have e2 := x.antisymm d'
  have sum_le : ∀ l : List Nat, Way L l → l.sum ≤ l.length * L := by
    intro l
    induction l with
    | nil => intro _; simp
    | cons p l ih =>
      intro w
      have := ih fun q hq => w q (by simp [hq])
      have := (w p (by simp)).2
      rw [List.sum_cons, List.length_cons, Nat.add_mul]
      omega
  refine ⟨?_, ?_, fun B hB hC => ?_⟩
  · rw [e2]
    have := sum_le l' b'
    have : l'.length * L ≤ many * L := Nat.mul_le_mul_right _ (by omega)
    show l'.sum ≤ _
    omega
  · rw [e2]
    exact wCost_nonneg fun p hp => h0 p (b' p hp).1 (b' p hp).2
  · rw [e2]
    have cost_le : ∀ l : List Nat, Way L l → wCost C l ≤ l.length * B := by
      intro l
      induction l with
      | nil => intro _; simp [wCost]
      | cons p l ih =>
        intro w
        have i := ih fun q hq => w q (by simp [hq])
        have := hC p (w p (by simp)).1 (w p (by simp)).2
        rw [List.length_cons, Int.natCast_add, Int.add_mul]
        show C p + wCost C l ≤ _
        omega
    have := cost_le l' b'
    have : (l'.length : Int) * B ≤ many * B := Int.mul_le_mul_of_nonneg_right (by omega) hB
    show wCost C l' ≤ _
    omega
end RW
set_option Elab.async false
set_option linter.all false
set_option maxRecDepth 100000
set_option pp.maxSteps 900
set_option maxHeartbeats 4000000
namespace K17
open PySem PySem.Spec PyProof.Rows L2 LamX NdefX
section
variable {P : Program} {w : World} {K : PySem.W.Frag} {mg : Str → Option Value} {base : Heap}
theorem Tab.setD {H : Hp} {d : Addr} {u o : HO} {kvs ks : List (L2.Key × V)} {φ : Nat → Option (Int × Nat)} {many : Nat} {rs : List Nat} (t : Tab H ks φ many rs) (h : H d = some u) (h3 : ∀ xs, u ≠ .tup xs) : Tab (upd H d o) ks φ many rs :=
  t.mono fun a xs e => by
    rw [upd_ne fun z => ?_]
    · exact e
    · rw [z, h] at e; exact h3 _ (Option.some.inj e)
theorem sc_settled_at_mean : FnScope ["row", "place", "value", "many", "bound", "costs", "found", "n", "part", "rest"] ["row", "place"] (defScope (topS 68)) := ⟨rfl, rfl, rfl, by decide +kernel, rfl, by decide +kernel, by decide +kernel⟩
def spSettled (K : PySem.W.Frag) : Sp := fun vs H Q _ => ∃ (p : Addr) (f : Nat → Int) (t : RW.Tri) (k : Nat), vs = [.ref p, .int k] ∧ IsRow K H p f ∧ RowO K H p t ∧ RW.Canon t ∧ (∀ n, RW.ev t n = f n) ∧ t.h.length ≤ 1000 ∧ t.c.length ≤ 1000 ∧
  1 ≤ k ∧ k ≤ t.h.length + t.c.length ∧ (- 1073741824 ≤ f k ∧ f k ≤ 1073741824) ∧ (∀ n : Nat, 1 ≤ n → f k * n ≤ f n * k) ∧
  ∀ H' (b : Nat), Gr K H H' → (∀ cl, RW.IsCl f cl → RW.Gains cl k (f k) b) → b ≤ k * (t.h.length + t.c.length * k + 1) → Q (.int b) H'
theorem ok_settled_at_mean (X : Txt K mg) : Ok P w K mg base CX0 6 "settled_at_mean" ["row", "place"] (spSettled K) := by
  refine ok_def0 X 51 rfl sc_settled_at_mean (by decide +kernel) (fun vs H Q E h => ?_) (fun _ _ _ _ _ _ us hl => match us, hl with | [_, _], _ => rfl) (fun f cdv A outer s H vs Q E hr h => ?_)
  · obtain ⟨p, f, t, k, rfl, _⟩ := h; rfl
  · obtain ⟨p, F, t, k, rfl, r1, O1, ct, et, zh, zc, k1, k2, hv, mean, fin⟩ := h
    refine ⟨_, (pss_cons (ps_asg (pe_tup (pa_cons (m1_K X (by decide +kernel) (ok_at X) hr pass0 (pv 0) (pa_cons (pv 1) pa_nil)) (pa_cons (pe_callB (len_K (K := K)) (by rfl) X.b_len (by decide +kernel) (pa_cons (m0_K X (by decide +kernel) (ok_cycle X) hr pass0 (pv 0)) pa_nil)) pa_nil))) (tup_K (K := K) (pgs_cons (pg_name (i := 2) sc_settled_at_mean.nd rfl (.inr rfl)) (pgs_cons (pg_name (i := 3) sc_settled_at_mean.nd rfl (.inl rfl)) pgs_nil))))
  (pss_cons (ps_set (i := 4) sc_settled_at_mean.nd rfl (.inl rfl) (pe_op op_add (pe_callB (len_K (K := K)) (by rfl) X.b_len (by decide +kernel) (pa_cons (m0_K X (by decide +kernel) (ok_head X) hr pass0 (pv 0)) pa_nil)) (pe_o (ok_multiple_of X) hr pass0 (pa_cons (pv 3) (pa_cons (pv 1) pa_nil)))))
  (pss_cons (ps_setLc (i := 5) (own := [("n", 7), ("part", 8)]) (g := (gTup K 2 (gCons (gName 7) (gCons (gName 8) gNil)))) (tt := tYes) rfl sc_settled_at_mean.nd rfl rfl (sw_true rfl rfl rfl (by decide +kernel)) (piE_K (K := K) X.b_enumerate (pa_cons (m1_K X (by decide +kernel) (ok_upto X) hr pass0 (pv 0) (pa_cons (pe_op op_add (pv 4) pe_int) pa_nil)) pa_nil)) (blkOk_by (N := ["row", "place", "value", "many", "bound", "costs", "found", "n", "part", "rest"]) (sc := defScope (topS 68)) (by decide +kernel)) (fun _ _ _ _ _ => (tup_K (K := K) (pgs_cons (pg_name (i := 7) sc_settled_at_mean.nd rfl (.inl rfl)) (pgs_cons (pg_name (i := 8) sc_settled_at_mean.nd rfl (.inl rfl)) pgs_nil)))) (fun _ _ _ _ _ => pts_nil) (fun _ _ _ _ _ => (pe_op op_sub (pe_op op_mul (pv 1) (pv 8)) (pe_op op_mul (pv 2) (pv 7)))))
  (pss_cons (ps_set (i := 6) sc_settled_at_mean.nd rfl (.inr rfl) (pe_o (ok_cheapest_by_rests X) hr pass0 (pa_cons (pv 5) (pa_cons (pv 1) pa_nil))))
  (pss_one (ps_ret (pe_callB (max_K (K := K)) (by rfl) X.b_max (by decide +kernel) (pa_cons (pe_op op_cat (pe_lst (pa_cons pe_int pa_nil)) (pe_lock (pe_lc (own := [("rest", 9)]) (g := (gName 9)) (tt := tYes) rfl sc_settled_at_mean.nd (pi_keys (pv 6)) (blkOk_by (N := ["row", "place", "value", "many", "bound", "costs", "found", "n", "part", "rest"]) (sc := defScope (topS 68)) (by decide +kernel)) (fun _ _ _ _ _ => (pg_name (i := 9) sc_settled_at_mean.nd rfl (.inl rfl))) (fun _ _ _ _ _ => pts_nil) (fun _ _ _ _ _ => (pe_op op_add (pe_op op_sub (pe_ix (ixT_K (K := K)) (pe_dget (huR hr) (pv 6) (pv 9) (fun _ _ => rfl)) pe_int (fun _ _ => rfl)) (pv 1)) pe_int))))) pa_nil)))))))), ?_⟩
    obtain ⟨dx, x1, y1, z1, he, hr'⟩ := O1
    have O1 : RowO K H p t := ⟨dx, x1, y1, z1, he, hr'⟩
    have c0 := ct.ne
    have gt := (RW.ev_gains ct.ne).congr et
    have slope := RW.slope_of c0 gt mean
    have mlt : t.c.length * k ≤ 1000 * 2000 := Nat.mul_le_mul zc (by omega)
    have ml : Nat.lcm t.c.length k ≤ t.c.length * k := Nat.le_of_dvd (Nat.mul_pos c0 k1) (Nat.lcm_dvd_mul _ _)
    have m0 : 0 < Nat.lcm t.c.length k := Nat.lcm_pos c0 k1
    have md : t.c.length ∣ Nat.lcm t.c.length k := Nat.dvd_lcm_left _ _
    have mp : k ∣ Nat.lcm t.c.length k := Nat.dvd_lcm_right _ _
    -- value, many
    refine ⟨_, rfl, p, dx, _, rfl, z1, rfl, _, rfl, p, F, k, rfl, r1, by omega, ?_⟩
    refine ⟨_, rfl, p, dx, _, rfl, z1, rfl, p, t, rfl, O1, fun H1 l1 g1 h1 => ?_⟩
    refine ⟨l1, _, rfl, .inl (.of h1), ?_⟩
    rw [List.length_map]
    refine ⟨by show 2 ≤ sizeLine; decide, fun tp ntp => ?_⟩
    have g2 : Gr K H (upd H1 tp (.tup [.int (F k), .int (t.c.length : Nat)])) := g1.trans (Ge.new ntp)
    have at1 : upd H1 tp (.tup [.int (F k), .int (t.c.length : Nat)]) tp = some (.tup [.int (F k), .int (t.c.length : Nat)]) := upd_same
    generalize upd H1 tp (.tup [.int (F k), .int (t.c.length : Nat)]) = H2 at g2 at1 ⊢
    refine ⟨tp, _, rfl, .of at1, rfl, _, _, rfl, _, _, rfl, rfl, ?_⟩
    -- bound
    refine ⟨_, rfl, p, dx, _, rfl, g2.at z1, rfl, p, t, rfl, g2.rowO O1, fun H3 l3 g3 h3 => ?_⟩
    have gr3 := g2.trans g3
    refine ⟨l3, _, rfl, .inl (.of h3), ?_⟩
    rw [List.length_map]
    refine ⟨_, rfl, _, rfl, t.c.length, k, rfl, c0, k1, by omega, by omega, ?_⟩
    refine ⟨_, _, rfl, rfl, ?_⟩
    obtain ⟨m, em⟩ : ∃ m, m = Nat.lcm t.c.length k := ⟨_, rfl⟩
    rw [← em] at ml m0 md mp ⊢
    obtain ⟨L, eL⟩ : ∃ L, L = t.h.length + m + 1 := ⟨_, rfl⟩
    -- costs
    refine ⟨_, rfl, p, dx, _, rfl, gr3.at z1, rfl, _, rfl, _, _, rfl, rfl, p, F, L, by rw [eL]; rfl, gr3.row r1, by omega, fun H4 l4 g4 n4 h4 => ?_⟩
    have gr4 := gr3.trans g4
    refine ⟨l4, _, rfl, .inl ⟨.of h4, fun D hD => ?_⟩⟩
    refine lc_enum (K := K) (fun i => V.int ((k : Int) * F i - F k * (i : Nat))) hD (.of h4) (by simp; omega) (fun i x T H5 Q5 hx g5 hT q5 => ?_) (fun H5 g5 h5 => ?_)
    · have hi : i < L := by
        have := (List.getElem?_eq_some_iff.mp hx).1
        simpa using this
      obtain rfl : x = V.int (F i) := by
        simp [List.getElem?_map, List.getElem?_range hi] at hx
        exact hx.symm
      refine ⟨T, _, rfl, .of hT, rfl, _, _, rfl, _, _, rfl, rfl, rfl, ?_⟩
      refine ⟨_, rfl, _, rfl, _, _, rfl, rfl, .inl ⟨by omega, by omega⟩, _, rfl, _, rfl, _, _, rfl, rfl, .inl ⟨by omega, by omega⟩, ?_⟩
      exact ⟨_, _, rfl, rfl, q5 _ (Ge.refl _)⟩
    · obtain ⟨C, eC⟩ : ∃ C : Nat → Int, C = fun i => (k : Int) * F i - F k * (i : Nat) := ⟨_, rfl⟩
      have eC' : ∀ i, C i = (k : Int) * F i - F k * (i : Nat) := fun i => by rw [eC]
      have h5' : H5 D = some (.lst (((List.range L).map C).map V.int)) := by
        rw [h5, List.map_map, eC]; simp
      have gr5 := gr4.trans g5
      have pos : ∀ q, 1 ≤ q → q < L → 0 ≤ C q := fun q q1 _ => by
        have := mean q q1
        rw [eC', Int.mul_comm (k : Int)]; omega
      refine ⟨_, rfl, _, rfl, D, _, C, L, k, rfl, h5', by simp, fun q hq => by rw [RW.getD_lt (by simpa using hq)]; simp, by omega, by omega, by omega, by omega, pos, fun H6 Dd kvs φ rs g6 nD hD6 tab told => ?_⟩
      refine ⟨by show 1 ≤ sizeLine; decide, fun l7 n7 => ?_⟩
      have g7 := g6.trans (Ge.new (T := tbs K) (o := .lst [.int 0]) n7)
      have hD7 : upd H6 l7 (.lst [.int 0]) Dd = some (.dK kvs) := by rw [upd_ne (ne_of_none hD6 n7)]; exact hD6
      have hl7 : upd H6 l7 (.lst [.int 0]) l7 = some (.lst [.int 0]) := upd_same
      have tab7 := tab.mono (H' := upd H6 l7 (.lst [.int 0])) fun a xs e => by rw [upd_ne (ne_of_none e n7)]; exact e
      generalize upd H6 l7 (.lst [.int 0]) = H7 at g7 hD7 hl7 tab7 ⊢
      refine ⟨Dd, .dK kvs, hD7, True.intro, fun od => ?_⟩
      have g8 := g7.put (o' := .frz od (.dK kvs)) nD hD7 (by intro _ z; cases z) (by intro _ z; cases z)
      have tab8 := tab7.setD (kvs := kvs) (o := .frz od (.dK kvs)) hD7 (by intro _ z; cases z)
      have hD8 : upd H7 Dd (.frz od (.dK kvs)) Dd = some (.frz od (.dK kvs)) := upd_same
      have hl8 : upd H7 Dd (.frz od (.dK kvs)) l7 = some (.lst [.int 0]) := by
        rw [upd_ne fun z => by rw [z, hD7] at hl7; cases hl7]; exact hl7
      generalize upd H7 Dd (.frz od (.dK kvs)) = H8 at g8 tab8 hD8 hl8 ⊢
      refine ⟨_, rfl, Dd, od, rfl, .inl ⟨kvs, hD8, fun Dl hDl => ?_⟩⟩
      refine lc_keys (K := K) tab8 (fun r => V.int ((((φ r).getD (0, 0)).2 : Int) - k + 1)) hDl hD8 (by omega) (fun i r H9 Q9 hr g9 q9 => ?_) (fun H9 g9 h9 => ?_)
      · obtain ⟨v, a, e1, e2, e3⟩ := tab8.get (List.mem_of_getElem? hr)
        have get : DGet H9 Dd (.int (r : Int)) (some (.ref a)) := .inl ⟨kvs, .inl (r : Int), .inr ⟨od, g9.at hD8⟩, rfl, e2.symm⟩
        refine ⟨rfl, _, rfl, _, rfl, Dd, .ref a, rfl, get, a, _, _, _, rfl, rfl, .of (g9.tup e3), rfl, ?_⟩
        refine ⟨_, rfl, _, _, rfl, rfl, _, _, rfl, rfl, ?_⟩
        have := q9 _ (Ge.refl _)
        rw [e1] at this
        exact this
      · refine ⟨g9.at hD8, ?_⟩
        have g10 := (g8.trans g9).put (o' := .dK kvs) nD (g9.at hD8) (by intro _ z; cases z) (by intro _ z; cases z)
        have ne1 : l7 ≠ Dd := fun z => by rw [z, hD8] at hl8; cases hl8
        have ne2 : Dl ≠ Dd := fun z => by rw [z, g9.at hD8] at h9; cases h9
        have hl10 : upd H9 Dd (.dK kvs) l7 = some (.lst [.int 0]) := by rw [upd_ne ne1]; exact g9.lst hl8
        have hd10 : upd H9 Dd (.dK kvs) Dl = some (.lst (rs.map fun r => V.int ((((φ r).getD (0, 0)).2 : Int) - k + 1))) := by rw [upd_ne ne2]; exact h9
        generalize upd H9 Dd (.dK kvs) = H10 at g10 hl10 hd10 ⊢
        have rl : rs.length ≤ k := RW.nodup_bounded _ _ tab.nd tab.bd
        refine ⟨l7, Dl, _, _, rfl, rfl, hl10, hd10, by simp; exact sized (by omega), fun l11 n11 => ?_⟩
        refine ⟨l11, 0 :: rs.map fun r => (((φ r).getD (0, 0)).2 : Int) - k + 1, rfl, .of (by rw [upd_same, List.map_cons, List.map_map]; rfl), by simp, fun mx hm hle => ?_⟩
        have mx0 := hle 0 (by simp)
        obtain ⟨b, rfl⟩ := Int.eq_ofNat_of_zero_le mx0
        have vb : ∀ r V, φ r = some V → V.2 + 1 ≤ b + k := fun r V e => by
          have := hle ((V.2 : Int) - k + 1) (List.mem_cons_of_mem _ (List.mem_map.mpr ⟨r, tab.has e, by rw [e]; rfl⟩))
          omega
        refine fin _ b ((gr5.trans g10).trans (Ge.new n11)) (fun cl hcl => ?_) ?_
        · have := told
          rw [eC, eL] at this
          exact RW.at_mean c0 gt k1 rfl mean slope m0 md mp hcl this vb
        · have bL : b ≤ k * L := by
            rcases List.mem_cons.mp hm with z | z
            · omega
            · obtain ⟨r, hr, e⟩ := List.mem_map.mp z
              obtain ⟨v, a, e1, e2, e3⟩ := tab.get hr
              rw [e1] at e
              have := ((told.ch r v e1).small k1 (by omega) pos).1
              have e : (v.2 : Int) - k + 1 = b := e
              omega
          have : k * L ≤ k * (t.h.length + t.c.length * k + 1) := Nat.mul_le_mul_left _ (by omega)
          omega
end
end K17
set_option Elab.async false
set_option linter.all false
set_option maxRecDepth 100000
set_option pp.maxSteps 900
set_option maxHeartbeats 4000000
namespace K17
open PySem PySem.Spec PyProof.Rows L2 LamX NdefX
section
variable {P : Program} {w : World} {K : PySem.W.Frag} {mg : Str → Option Value} {base : Heap}
/-- b: the least cost of one big part and the rest -/
def IsB (C : Nat → Int) (φ : Nat → Option (Int × Nat)) (low c r : Nat) (b : Int) : Prop :=
  (∃ n q V, low ≤ n ∧ n < low + c ∧ q < c ∧ (q + n) % c = r ∧ φ q = some V ∧ b = C n + V.1) ∧ ∀ (n q : Nat) (V : Int × Nat), low ≤ n → n < low + c → q < c → (q + n) % c = r → φ q = some V → b ≤ C n + V.1
theorem rest_of {c r n : Nat} (hc : 0 < c) (hr : r < c) : ∃ q, q < c ∧ (q + n) % c = r ∧ ((r : Int) - (n : Int)) % (c : Int) = (q : Int) := by
  have h1 : 0 ≤ ((r : Int) - (n : Int)) % (c : Int) := Int.emod_nonneg _ (by omega)
  have h2 := Int.emod_lt_of_pos ((r : Int) - (n : Int)) (show (0 : Int) < c by omega)
  refine ⟨(((r : Int) - (n : Int)) % (c : Int)).toNat, by omega, ?_, by omega⟩
  have e : (((((r : Int) - (n : Int)) % (c : Int)).toNat + n : Nat) : Int) % (c : Int) = ((r : Nat) : Int) := by
    rw [Int.natCast_add, Int.toNat_of_nonneg h1, Int.emod_add_emod, Int.sub_add_cancel]
    exact Int.emod_eq_of_lt (by omega) (by omega)
  have e : (((((r : Int) - (n : Int)) % (c : Int)).toNat + n) % c : Nat) = r := by
    have : ((((((r : Int) - (n : Int)) % (c : Int)).toNat + n) % c : Nat) : Int) = (r : Int) := e
    omega
  exact e
theorem rest_uniq {c r n q q' : Nat} (h1 : q < c) (h2 : (q + n) % c = r) (h3 : q' < c) (h4 : (q' + n) % c = r) : q = q' := by
  have : (n + q) % c = (n + q') % c := by rw [Nat.add_comm, h2, Nat.add_comm, h4]
  have := RW.mod_cancel this
  rw [Nat.mod_eq_of_lt h1, Nat.mod_eq_of_lt h3] at this
  exact this
theorem sc_settled_above : FnScope ["row", "low", "many", "gain", "costs", "found", "dearest", "rest", "ways", "small", "n", "part"] ["row"] (defScope (topS 69)) := ⟨rfl, rfl, rfl, by decide +kernel, rfl, by decide +kernel, by decide +kernel⟩
def spAboveIt (K : PySem.W.Frag) : Sp := fun vs H Q _ => ∃ (p : Addr) (f : Nat → Int) (t : RW.Tri) (B : Nat), vs = [.ref p] ∧ IsRow K H p f ∧ RowO K H p t ∧ RW.Canon t ∧ (∀ n, RW.ev t n = f n) ∧ t.h.length ≤ 1000 ∧ t.c.length ≤ 1000 ∧
  (∀ n : Nat, 1 ≤ n → t.g * n < f n * t.c.length) ∧ B < 1000000000 ∧ (∀ n : Nat, 1 ≤ n → n < max 1 t.h.length + t.c.length → t.c.length * f n - t.g * n ≤ B) ∧
  ∀ H' (b : Nat), Gr K H H' → (∀ cl, RW.IsCl f cl → RW.Gains cl t.c.length t.g b) → b ≤ max 1 t.h.length + t.c.length + t.c.length * (max 1 t.h.length + t.c.length) + (t.c.length + 1) * B * max 1 t.h.length + 1 → Q (.int b) H'
theorem ok_settled_above (X : Txt K mg) : Ok P w K mg base CX0 6 "settled_above" ["row"] (spAboveIt K) := by
  refine ok_def0 X 52 rfl sc_settled_above (by decide +kernel) (fun vs H Q E h => ?_) (fun _ _ _ _ _ _ us hl => match us, hl with | [_], _ => rfl) (fun f cdv A outer s H vs Q E hr h => ?_)
  · obtain ⟨p, f, t, B, rfl, _⟩ := h; rfl
  · obtain ⟨p, F, t, B, rfl, r1, O1, ct, et, zh, zc, above, hB, hBC, fin⟩ := h
    refine ⟨_, (pss_cons (ps_asg (pe_tup (pa_cons (pe_callB (call_max2 rfl) (by rfl) X.b_max (by decide +kernel) (pa_cons pe_int (pa_cons (pe_callB (len_K (K := K)) (by rfl) X.b_len (by decide +kernel) (pa_cons (m0_K X (by decide +kernel) (ok_head X) hr pass0 (pv 0)) pa_nil)) pa_nil))) (pa_cons (pe_callB (len_K (K := K)) (by rfl) X.b_len (by decide +kernel) (pa_cons (m0_K X (by decide +kernel) (ok_cycle X) hr pass0 (pv 0)) pa_nil)) (pa_cons (m0_K X (by decide +kernel) (ok_gain X) hr pass0 (pv 0)) pa_nil)))) (tup_K (K := K) (pgs_cons (pg_name (i := 1) sc_settled_above.nd rfl (.inl rfl)) (pgs_cons (pg_name (i := 2) sc_settled_above.nd rfl (.inr rfl)) (pgs_cons (pg_name (i := 3) sc_settled_above.nd rfl (.inr rfl)) pgs_nil)))))
  (pss_cons (ps_set (i := 4) sc_settled_above.nd rfl (.inr rfl) (pe_lc (own := [("n", 10), ("part", 11)]) (g := (gTup K 2 (gCons (gName 10) (gCons (gName 11) gNil)))) (tt := tYes) rfl sc_settled_above.nd (piE_K (K := K) X.b_enumerate (pa_cons (m1_K X (by decide +kernel) (ok_upto X) hr pass0 (pv 0) (pa_cons (pe_op op_add (pv 1) (pv 2)) pa_nil)) pa_nil)) (blkOk_by (N := ["row", "low", "many", "gain", "costs", "found", "dearest", "rest", "ways", "small", "n", "part"]) (sc := defScope (topS 69)) (by decide +kernel)) (fun _ _ _ _ _ => (tup_K (K := K) (pgs_cons (pg_name (i := 10) sc_settled_above.nd rfl (.inl rfl)) (pgs_cons (pg_name (i := 11) sc_settled_above.nd rfl (.inl rfl)) pgs_nil)))) (fun _ _ _ _ _ => pts_nil) (fun _ _ _ _ _ => (pe_op op_sub (pe_op op_mul (pv 2) (pv 11)) (pe_op op_mul (pv 3) (pv 10))))))
  (pss_cons (ps_set (i := 5) sc_settled_above.nd rfl (.inr rfl) (pe_o (ok_cheapest_by_rests X) hr pass0 (pa_cons (pv 4) (pa_cons (pv 2) pa_nil))))
  (pss_cons (ps_set (i := 6) sc_settled_above.nd rfl (.inr rfl) pe_int)
  (pss_cons (ps_lock (ps_for PassesOwn.never rfl (pi_keys (pv 5)) (pg_name (i := 7) sc_settled_above.nd rfl (.inr rfl))
  (pss_cons (ps_setLc (i := 8) (own := [("n", 10)]) (g := (gName 10)) (tt := tYes) rfl sc_settled_above.nd rfl rfl (sw_true rfl rfl rfl (by decide +kernel)) (pi_range2 (by rfl) X.b_range (pa_cons (pv 1) (pa_cons (pe_op op_add (pv 1) (pv 2)) pa_nil))) (blkOk_by (N := ["row", "low", "many", "gain", "costs", "found", "dearest", "rest", "ways", "small", "n", "part"]) (sc := defScope (topS 69)) (by decide +kernel)) (fun _ _ _ _ _ => (pg_name (i := 10) sc_settled_above.nd rfl (.inl rfl))) (fun _ _ _ _ _ => pts_nil) (fun _ _ _ _ _ => (pe_op op_add (pe_ix (ixL_K (K := K)) (pv 4) (pv 10) (fun _ _ => rfl)) (pe_ix (ixT_K (K := K)) (pe_dget (huR hr) (pv 5) (pe_op op_mod (pe_op op_sub (pv 7) (pv 10)) (pv 2)) (fun _ _ => rfl)) pe_int (fun _ _ => rfl)))))
  (pss_one (ps_set (i := 6) sc_settled_above.nd rfl (.inr rfl) (pe_callB (call_max2 rfl) (by rfl) X.b_max (by decide +kernel) (pa_cons (pv 6) (pa_cons (pe_callB (min_K (K := K)) (by rfl) X.b_min (by decide +kernel) (pa_cons (pv 8) pa_nil)) pa_nil))))))))
  (pss_cons (ps_setLc (i := 9) (own := [("n", 10)]) (g := (gName 10)) (tt := tYes) rfl sc_settled_above.nd rfl rfl (sw_true rfl rfl rfl (by decide +kernel)) (pi_range2 (by rfl) X.b_range (pa_cons pe_int (pa_cons (pv 1) pa_nil))) (blkOk_by (N := ["row", "low", "many", "gain", "costs", "found", "dearest", "rest", "ways", "small", "n", "part"]) (sc := defScope (topS 69)) (by decide +kernel)) (fun _ _ _ _ _ => (pg_name (i := 10) sc_settled_above.nd rfl (.inl rfl))) (fun _ _ _ _ _ => pts_nil) (fun _ _ _ _ _ => (pe_op op_add (pe_op op_fdiv (pe_op op_mul (pv 6) (pv 10)) (pe_ix (ixL_K (K := K)) (pv 4) (pv 10) (fun _ _ => rfl))) pe_int)))
  (pss_one (ps_ret (pe_callB (max_K (K := K)) (by rfl) X.b_max (by decide +kernel) (pa_cons (pe_op op_cat (pe_lst (pa_cons (pe_op op_add (pe_op op_add (pv 1) (pv 2)) (pe_callB (max_K (K := K)) (by rfl) X.b_max (by decide +kernel) (pa_cons (pe_lock (pe_lc (own := [("rest", 7)]) (g := (gName 7)) (tt := tYes) rfl sc_settled_above.nd (pi_keys (pv 5)) (blkOk_by (N := ["row", "low", "many", "gain", "costs", "found", "dearest", "rest", "ways", "small", "n", "part"]) (sc := defScope (topS 69)) (by decide +kernel)) (fun _ _ _ _ _ => (pg_name (i := 7) sc_settled_above.nd rfl (.inl rfl))) (fun _ _ _ _ _ => pts_nil) (fun _ _ _ _ _ => (pe_ix (ixT_K (K := K)) (pe_dget (huR hr) (pv 5) (pv 7) (fun _ _ => rfl)) pe_int (fun _ _ => rfl))))) pa_nil))) pa_nil)) (pv 9)) pa_nil)))))))))), ?_⟩
    obtain ⟨dx, x1, y1, z1, he, hr'⟩ := O1
    have O1 : RowO K H p t := ⟨dx, x1, y1, z1, he, hr'⟩
    have c0 := ct.ne
    have gt := (RW.ev_gains ct.ne).congr et
    obtain ⟨low, elow⟩ : ∃ low, low = max 1 t.h.length := ⟨_, rfl⟩
    obtain ⟨c, ec⟩ : ∃ c, c = t.c.length := ⟨_, rfl⟩
    rw [← elow, ← ec] at hBC fin
    rw [← ec] at above c0 gt zc
    have low1 : 1 ≤ low := by omega
    have lowh : t.h.length ≤ low := by omega
    -- low, many, gain
    refine ⟨_, rfl, p, dx, _, rfl, z1, rfl, p, t, rfl, O1, fun H1 l1 g1 h1 => ?_⟩
    refine ⟨l1, _, rfl, .inl (.of h1), ?_⟩
    rw [List.length_map]
    refine ⟨_, _, rfl, ?_⟩
    rw [show (if ((t.h.length : Nat) : Int) > 1 then ((t.h.length : Nat) : Int) else 1) = (low : Int) by split <;> omega]
    refine ⟨_, rfl, p, dx, _, rfl, g1.at z1, rfl, p, t, rfl, g1.rowO O1, fun H2 l2 g2 h2 => ?_⟩
    have gr2 := g1.trans g2
    refine ⟨l2, _, rfl, .inl (.of h2), ?_⟩
    rw [List.length_map, ← ec]
    refine ⟨_, rfl, p, dx, _, rfl, gr2.at z1, rfl, p, t, rfl, gr2.rowO O1, ?_⟩
    refine ⟨by show 3 ≤ sizeLine; decide, fun tp ntp => ?_⟩
    have gr3 : Gr K H (upd H2 tp (.tup [.int low, .int c, .int t.g])) := gr2.trans (Ge.new ntp)
    have at1 : upd H2 tp (.tup [.int low, .int c, .int t.g]) tp = some (.tup [.int low, .int c, .int t.g]) := upd_same
    generalize upd H2 tp (.tup [.int low, .int c, .int t.g]) = H3 at gr3 at1 ⊢
    refine ⟨tp, _, rfl, .of at1, rfl, _, _, rfl, _, _, rfl, _, _, rfl, rfl, ?_⟩
    -- costs
    refine ⟨_, rfl, p, dx, _, rfl, gr3.at z1, rfl, _, rfl, _, rfl, _, _, rfl, rfl, p, F, low + c, by rfl, gr3.row r1, by omega, fun H4 l4 g4 n4 h4 => ?_⟩
    have gr4 := gr3.trans g4
    refine ⟨l4, _, rfl, .inl ⟨.of h4, fun D hD => ?_⟩⟩
    refine lc_enum (K := K) (fun i => V.int ((c : Int) * F i - t.g * (i : Nat))) hD (.of h4) (by simp; omega) (fun i x T H5 Q5 hx g5 hT q5 => ?_) (fun H5 g5 h5 => ?_)
    · have hi : i < low + c := by
        have := (List.getElem?_eq_some_iff.mp hx).1
        simpa using this
      obtain rfl : x = V.int (F i) := by
        simp [List.getElem?_map, List.getElem?_range hi] at hx
        exact hx.symm
      refine ⟨T, _, rfl, .of hT, rfl, _, _, rfl, _, _, rfl, rfl, rfl, ?_⟩
      refine ⟨_, rfl, _, rfl, _, _, rfl, rfl, .inl ⟨by omega, by omega⟩, _, rfl, _, rfl, _, _, rfl, rfl, .inr ⟨by omega, by omega⟩, ?_⟩
      exact ⟨_, _, rfl, rfl, q5 _ (Ge.refl _)⟩
    · obtain ⟨C, eC⟩ : ∃ C : Nat → Int, C = fun i => (c : Int) * F i - t.g * (i : Nat) := ⟨_, rfl⟩
      have eC' : ∀ i, C i = (c : Int) * F i - t.g * (i : Nat) := fun i => by rw [eC]
      obtain ⟨L, eL⟩ : ∃ L, L = low + c := ⟨_, rfl⟩
      have h5' : H5 D = some (.lst (((List.range L).map C).map V.int)) := by
        rw [h5, List.map_map, eC, eL]; simp
      have gr5 := gr4.trans g5
      have pos1 : ∀ q, 1 ≤ q → 0 < C q := fun q q1 => by
        have := above q q1
        rw [eC', Int.mul_comm (c : Int)]; omega
      have pos : ∀ q, 1 ≤ q → q < L → 0 ≤ C q := fun q q1 _ => Int.le_of_lt (pos1 q q1)
      have cg : ∀ q, q < L → ((List.range L).map C).getD q 0 = C q := fun q hq => by rw [RW.getD_lt (by simpa using hq)]; simp
      have cl' : ((List.range L).map C).length = L := by simp
      refine ⟨_, rfl, _, rfl, D, _, C, L, c, rfl, h5', by simp, cg, by omega, by omega, by omega, by omega, pos, fun H6 Dd kvs φ rs g6 nD hD6 tab told => ?_⟩
      have hc6 : H6 D = some (.lst (((List.range L).map C).map V.int)) := g6.lst h5'
      generalize (List.range L).map C = cs at hc6 cg cl'
      have allr : ∀ q, q < c → ∃ V, φ q = some V := fun q hq => by
        rcases Nat.eq_zero_or_pos q with z | z
        · obtain ⟨V, e, _⟩ := told.al [] (by intro _ z; cases z)
          exact ⟨V, by rw [z]; simpa using e⟩
        · obtain ⟨V, e, _⟩ := told.al [q] (by intro x hx; rw [List.mem_singleton.mp hx]; omega)
          exact ⟨V, by simpa [Nat.mod_eq_of_lt hq] using e⟩
      have rl : rs.length ≤ c := RW.nodup_bounded _ _ tab.nd tab.bd
      have small := fun r v (e : φ r = some v) => (told.ch r v e).small c0 (by omega) pos
      have bB : ∀ r b, IsB C φ low c r b → 0 ≤ b ∧ b ≤ ((c + 1 : Nat) : Int) * B := fun r b hb => by
        obtain ⟨⟨n, q, V, a1, a2, a3, a4, a5, a6⟩, _⟩ := hb
        obtain ⟨_, s1, s2⟩ := small q V a5
        have := s2 B (by omega) fun p p1 p2 => by rw [eC']; exact hBC p p1 (by omega)
        have := hBC n (by omega) (by omega)
        rw [← eC'] at this
        have := pos1 n (by omega)
        rw [Int.natCast_add, Int.add_mul]
        omega
      refine ⟨Dd, .dK kvs, hD6, True.intro, fun od => ?_⟩
      have g7 := g6.put (o' := .frz od (.dK kvs)) nD hD6 (by intro _ z; cases z) (by intro _ z; cases z)
      have tab7 := tab.setD (kvs := kvs) (o := .frz od (.dK kvs)) hD6 (by intro _ z; cases z)
      have hD7 : upd H6 Dd (.frz od (.dK kvs)) Dd = some (.frz od (.dK kvs)) := upd_same
      have hc7 : upd H6 Dd (.frz od (.dK kvs)) D = some (.lst (cs.map V.int)) := by
        rw [upd_ne fun z => by rw [z, hD6] at hc6; cases hc6]; exact hc6
      generalize upd H6 Dd (.frz od (.dK kvs)) = H7 at g7 tab7 hD7 hc7 ⊢
      refine ⟨_, rfl, Dd, od, rfl, .inl ⟨kvs, hD7, ?_⟩⟩
      refine for_any (n := kvs.length) (fun i σ H8 => Gr K H7 H8 ∧ ∃ (j7 j8 : Option V) (d : Int), σ = [some (.ref p), some (.int low), some (.int c), some (.int t.g), some (.ref D), some (.ref Dd), some (.int d), j7, j8, none, none, none] ∧ 0 ≤ d ∧ d ≤ ((c + 1 : Nat) : Int) * B ∧
        ∀ r ∈ rs.take i, ∃ b, IsB C φ low c r b ∧ b ≤ d)
        ⟨Ge.refl _, none, none, 0, rfl, Int.le_refl _, by rw [← Int.natCast_mul]; omega, by simp⟩ (fun i σ H8 hi h => ⟨h.1.at hD7, hi⟩) (fun σ H8 h => ⟨h.1.at hD7, Nat.le_refl _⟩) (fun i x σ H8 H9 hi h hy => ?_) (fun σ H8 h => ?_)
      · obtain ⟨g8, j7, j8, d, rfl, d0, d1, hd⟩ := h
        obtain ⟨rfl, ke, v, hkv, rfl⟩ := hy
        obtain ⟨r, hr, rfl⟩ : ∃ r : Nat, rs[i]? = some r ∧ ke = .inl (r : Int) := by
          have e := congrArg (fun l => l[i]?) tab.ks
          simp only [List.getElem?_map, hkv, Option.map_some] at e
          cases e2 : rs[i]? with
          | none => rw [e2] at e; cases e
          | some a => rw [e2] at e; exact ⟨a, rfl, Option.some.inj e⟩
        have rm : r ∈ rs := List.mem_of_getElem? hr
        have rc := tab.bd r rm
        have tk : rs.take (i + 1) = rs.take i ++ [r] := by rw [List.take_add_one, hr]; rfl
        refine ⟨_, rfl, _, rfl, _, rfl, _, _, rfl, rfl, (low : Int), (low : Int) + c, rfl, ⟨by omega, by omega, by omega, by omega⟩, fun Dw hDw => ?_⟩
        rw [show ((low : Int) + c - low).toNat = c by omega]
        refine lc_rng (K := K) (F := fun i => V.int (C (low + i) + ((φ ((((r : Int) - ((low : Int) + (i : Int))) % (c : Int)).toNat)).getD (0, 0)).1)) hDw (by omega) (fun i H10 Q10 hi g10 q10 => ?_) (fun H10 g10 h10 => ?_)
        · obtain ⟨q, q1, q2, q3⟩ := rest_of (n := low + i) c0 rc
          obtain ⟨V', eV⟩ := allr q q1
          obtain ⟨v', a, e1, e2, e3⟩ := tab7.get (tab7.has eV)
          rw [eV] at e1; cases e1
          have q3 : ((r : Int) - ((low : Int) + (i : Int))) % (c : Int) = (q : Int) := q3
          have get : DGet H10 Dd (.int (((r : Int) - ((low : Int) + (i : Int))) % (c : Int))) (some (.ref a)) := by
            rw [q3]
            exact .inl ⟨kvs, .inl (q : Int), .inr ⟨od, g10.at (g8.at hD7)⟩, rfl, e2.symm⟩
          refine ⟨rfl, _, rfl, _, rfl, D, _, _, _, rfl, rfl, .of (g10.lst (g8.lst hc7)), atID' (j := low + i) (by omega) (by omega), ?_⟩
          rw [cg _ (by omega)]
          refine ⟨_, rfl, _, rfl, _, rfl, _, _, rfl, rfl, _, rfl, _, _, rfl, rfl, by omega, Dd, .ref a, rfl, get, a, _, _, _, rfl, rfl, .of (g10.tup (g8.tup e3)), rfl, ?_⟩
          refine ⟨_, _, rfl, rfl, ?_⟩
          have := q10 _ (Ge.refl _)
          rw [q3, Int.toNat_natCast, eV] at this
          exact this
        · have e10 : H10 Dw = some (.lst (((List.range c).map fun i => C (low + i) + ((φ ((((r : Int) - ((low : Int) + (i : Int))) % (c : Int)).toNat)).getD (0, 0)).1).map V.int)) := by rw [h10, List.map_map]; rfl
          refine ⟨_, rfl, _, rfl, Dw, _, rfl, .of e10, by simp; omega, fun mn hm hle => ?_⟩
          refine ⟨_, _, rfl, ?_⟩
          have isb : IsB C φ low c r mn := by
            obtain ⟨i0, hi0, rfl⟩ := List.mem_map.mp hm
            have hi0 := List.mem_range.mp hi0
            obtain ⟨q, q1, q2, q3⟩ := rest_of (n := low + i0) c0 rc
            obtain ⟨V', eV⟩ := allr q q1
            have q3 : ((r : Int) - ((low : Int) + (i0 : Int))) % (c : Int) = (q : Int) := q3
            refine ⟨⟨low + i0, q, V', by omega, by omega, q1, q2, eV, by rw [q3, Int.toNat_natCast, eV]; rfl⟩, fun n q' V n1 n2 h1 h2 h3 => ?_⟩
            obtain ⟨q4, q5, q6, q7⟩ := rest_of (n := n) c0 rc
            have := rest_uniq h1 h2 q5 q6
            subst this
            refine hle _ (List.mem_map.mpr ⟨n - low, List.mem_range.mpr (by omega), ?_⟩)
            rw [show (low : Int) + ((n - low : Nat) : Int) = (n : Int) by omega, q7, Int.toNat_natCast, h3, show low + (n - low) = n by omega]
            rfl
          obtain ⟨m0, m1⟩ := bB r mn isb
          refine ⟨g8.trans g10, _, _, if mn > d then mn else d, rfl, by split <;> omega, by split <;> omega, fun r' hr' => ?_⟩
          rw [tk] at hr'
          rcases List.mem_append.mp hr' with z | z
          · obtain ⟨b, b1, b2⟩ := hd r' z
            exact ⟨b, b1, by split <;> omega⟩
          · rw [List.mem_singleton.mp z]
            exact ⟨mn, isb, by split <;> omega⟩
      · obtain ⟨g8, j7, j8, d, rfl, d0, d1, hd⟩ := h
        have ek : kvs.length = rs.length := by have := congrArg List.length tab.ks; simpa using this
        rw [ek, List.take_length] at hd
        refine ⟨g8.at hD7, ?_⟩
        have g9 := (g7.trans g8).put (o' := .dK kvs) nD (g8.at hD7) (by intro _ z; cases z) (by intro _ z; cases z)
        have tab9 := (tab7.mono fun a xs e => g8.tup e).setD (kvs := kvs) (o := .dK kvs) (g8.at hD7) (by intro _ z; cases z)
        have hD9 : upd H8 Dd (.dK kvs) Dd = some (.dK kvs) := upd_same
        have hc9 : upd H8 Dd (.dK kvs) D = some (.lst (cs.map V.int)) := by
          rw [upd_ne fun z => by rw [z, hD7] at hc7; cases hc7]; exact g8.lst hc7
        generalize upd H8 Dd (.dK kvs) = H9 at g9 tab9 hD9 hc9 ⊢
        refine ⟨_, rfl, 1, (low : Int), rfl, ⟨by omega, by omega, by omega, by omega⟩, fun Ds hDs => ?_⟩
        rw [show ((low : Int) - 1).toNat = low - 1 by omega]
        refine lc_rng (K := K) (F := fun i => V.int (d * ((1 : Int) + (i : Int)) / C (1 + i) + 1)) hDs (by omega) (fun i H10 Q10 hi g10 q10 => ?_) (fun H10 g10 h10 => ?_)
        · have cp := pos1 (1 + i) (by omega)
          have cb := hBC (1 + i) (by omega) (by omega)
          rw [← eC'] at cb
          refine ⟨rfl, _, rfl, _, rfl, _, _, rfl, rfl, .inr ⟨by omega, by omega⟩, _, rfl, _, rfl, D, _, _, _, rfl, rfl, .of (g10.lst hc9), atID' (j := 1 + i) (by omega) (by omega), ?_⟩
          rw [cg _ (by omega)]
          exact ⟨_, _, rfl, rfl, ⟨cp, by omega⟩, _, _, rfl, rfl, q10 _ (Ge.refl _)⟩
        · have e10 : H10 Ds = some (.lst (((List.range (low - 1)).map fun i : Nat => d * ((1 : Int) + (i : Int)) / C (1 + i) + 1).map V.int)) := by rw [h10, List.map_map]; rfl
          have gr10 := g9.trans g10
          have hD10 := g10.at hD9 (by intro _ z; cases z)
          have tab10 := tab9.mono fun a xs e => g10.tup e
          refine ⟨_, rfl, _, rfl, _, _, rfl, rfl, ?_⟩
          refine ⟨Dd, .dK kvs, hD10, True.intro, fun od2 => ?_⟩
          have g11 := gr10.put (o' := .frz od2 (.dK kvs)) nD hD10 (by intro _ z; cases z) (by intro _ z; cases z)
          have tab11 := tab10.setD (kvs := kvs) (o := .frz od2 (.dK kvs)) hD10 (by intro _ z; cases z)
          have hD11 : upd H10 Dd (.frz od2 (.dK kvs)) Dd = some (.frz od2 (.dK kvs)) := upd_same
          have hs11 : upd H10 Dd (.frz od2 (.dK kvs)) Ds = some (.lst (((List.range (low - 1)).map fun i : Nat => d * ((1 : Int) + (i : Int)) / C (1 + i) + 1).map V.int)) := by
            rw [upd_ne fun z => by rw [z, hD10] at e10; cases e10]; exact e10
          generalize upd H10 Dd (.frz od2 (.dK kvs)) = H11 at g11 tab11 hD11 hs11 ⊢
          refine ⟨_, rfl, Dd, od2, rfl, .inl ⟨kvs, hD11, fun Dl hDl => ?_⟩⟩
          refine lc_keys (K := K) tab11 (fun r => V.int (((φ r).getD (0, 0)).2 : Int)) hDl hD11 (by omega) (fun i r H12 Q12 hr g12 q12 => ?_) (fun H12 g12 h12 => ?_)
          · obtain ⟨v, a, e1, e2, e3⟩ := tab11.get (List.mem_of_getElem? hr)
            have get : DGet H12 Dd (.int (r : Int)) (some (.ref a)) := .inl ⟨kvs, .inl (r : Int), .inr ⟨od2, g12.at hD11⟩, rfl, e2.symm⟩
            refine ⟨rfl, _, rfl, _, rfl, Dd, .ref a, rfl, get, a, _, _, _, rfl, rfl, .of (g12.tup e3), rfl, ?_⟩
            have := q12 _ (Ge.refl _)
            rw [e1] at this
            exact this
          · refine ⟨g12.at hD11, ?_⟩
            have g13 := (g11.trans g12).put (o' := .dK kvs) nD (g12.at hD11) (by intro _ z; cases z) (by intro _ z; cases z)
            have ne1 : Ds ≠ Dd := fun z => by rw [z, hD11] at hs11; cases hs11
            have ne2 : Dl ≠ Dd := fun z => by rw [z, g12.at hD11] at h12; cases h12
            have hs13 : upd H12 Dd (.dK kvs) Ds = some (.lst (((List.range (low - 1)).map fun i : Nat => d * ((1 : Int) + (i : Int)) / C (1 + i) + 1).map V.int)) := by rw [upd_ne ne1]; exact g12.lst hs11
            have hd13 : upd H12 Dd (.dK kvs) Dl = some (.lst ((rs.map fun r => (((φ r).getD (0, 0)).2 : Int)).map V.int)) := by rw [upd_ne ne2, h12, List.map_map]; rfl
            generalize upd H12 Dd (.dK kvs) = H13 at g13 hs13 hd13 ⊢
            obtain ⟨V0, e0⟩ := allr 0 c0
            have r0 : 0 ∈ rs := tab.has e0
            refine ⟨Dl, _, rfl, .of hd13, by simp; exact List.length_pos_of_mem r0, fun mx hm hle => ?_⟩
            refine ⟨_, _, rfl, rfl, by show 1 ≤ sizeLine; decide, fun l14 n14 => ?_⟩
            have g14 := g13.trans (Ge.new (T := tbs K) (o := .lst [.int ((low : Int) + c + mx)]) n14)
            have hl14 : upd H13 l14 (.lst [.int ((low : Int) + c + mx)]) l14 = some (.lst [.int ((low : Int) + c + mx)]) := upd_same
            have hs14 : upd H13 l14 (.lst [.int ((low : Int) + c + mx)]) Ds = some (.lst (((List.range (low - 1)).map fun i : Nat => d * ((1 : Int) + (i : Int)) / C (1 + i) + 1).map V.int)) := by rw [upd_ne (ne_of_none hs13 n14)]; exact hs13
            generalize upd H13 l14 (.lst [.int ((low : Int) + c + mx)]) = H14 at g14 hl14 hs14 ⊢
            refine ⟨_, rfl, l14, Ds, _, _, rfl, rfl, hl14, hs14, by simp; exact sized (by omega), fun l15 n15 => ?_⟩
            refine ⟨l15, ((low : Int) + c + mx) :: (List.range (low - 1)).map fun i : Nat => d * ((1 : Int) + (i : Int)) / C (1 + i) + 1, rfl, .of (by rw [upd_same]; rfl), by simp, fun bx hbm hble => ?_⟩
            have mxr : ∃ r V, φ r = some V ∧ mx = (V.2 : Int) := by
              obtain ⟨r, hr, e⟩ := List.mem_map.mp hm
              obtain ⟨v, a, e1, e2, e3⟩ := tab.get hr
              rw [e1] at e
              exact ⟨r, v, e1, e.symm⟩
            have mxle : ∀ r V, φ r = some V → (V.2 : Int) ≤ mx := fun r V e => hle _ (List.mem_map.mpr ⟨r, tab.has e, by rw [e]; rfl⟩)
            have b1 := hble _ (List.mem_cons_self)
            have b2 : ∀ n : Nat, 1 ≤ n → n < low → d * n / C n + 1 ≤ bx := fun n n1 n2 => hble _ (List.mem_cons_of_mem _ (List.mem_map.mpr ⟨n - 1, List.mem_range.mpr (by omega), by
              rw [show (1 : Int) + ((n - 1 : Nat) : Int) = (n : Int) by omega, show 1 + (n - 1) = n by omega]⟩))
            obtain ⟨r1', V1, eV1, emx⟩ := mxr
            obtain ⟨b, rfl⟩ := Int.eq_ofNat_of_zero_le (show 0 ≤ bx by omega)
            have hBex : ∀ r, r < c → ∃ x, IsB C φ low c r x ∧ x ≤ d := fun r hr => by
              obtain ⟨V, e⟩ := allr r hr
              exact hd r (tab.has e)
            refine fin _ b ((gr5.trans g14).trans (Ge.new n15)) (fun cl hcl => ?_) ?_
            · have hC : C = fun n : Nat => (c : Int) * F n - t.g * n := eC
              have told' : RW.Told (fun n : Nat => (c : Int) * F n - t.g * n) (low + c) c φ := by
                have := told
                rw [hC, eL] at this; exact this
              refine RW.above (B := fun r => if h : r < c then Classical.choose (hBex r h) else 0) (dear := d) c0 gt lowh low1 above hcl told' (fun r V e => ?_) d0 (fun r hr => ?_) (fun r hr => ?_) (fun r hr => ?_) (fun n n1 n2 => ?_)
              · have := mxle r V e; omega
              · simp only [dif_pos hr]; exact (Classical.choose_spec (hBex r hr)).2
              · simp only [dif_pos hr]
                have := (Classical.choose_spec (hBex r hr)).1.1
                simpa only [eC'] using this
              · simp only [dif_pos hr]
                have := (Classical.choose_spec (hBex r hr)).1.2
                simpa only [eC'] using this
              · have q := b2 n n1 n2
                have := Int.lt_mul_of_ediv_lt (pos1 n n1) (show d * n / C n < b by omega)
                rw [eC'] at this
                rw [Int.mul_comm] at this
                rw [Int.mul_comm ((c : Int) * F n - t.g * n)]
                rw [Int.mul_comm] at this
                exact this
            · rcases List.mem_cons.mp hbm with z | z
              · have := (small r1' V1 eV1).1
                rw [eL] at this
                omega
              · obtain ⟨i0, hi0, e⟩ := List.mem_map.mp z
                have hi0 := List.mem_range.mp hi0
                have p1 : 0 ≤ d * ((1 : Int) + (i0 : Int)) := Int.mul_nonneg d0 (by omega)
                have q1 := Int.ediv_le_self (C (1 + i0)) p1
                have q2 : d * ((1 : Int) + (i0 : Int)) ≤ ((c + 1 : Nat) : Int) * B * low := by
                  have a1 : d * ((1 : Int) + (i0 : Int)) ≤ d * low := Int.mul_le_mul_of_nonneg_left (by omega) d0
                  have a2 : d * (low : Int) ≤ ((c + 1 : Nat) : Int) * B * low := Int.mul_le_mul_of_nonneg_right d1 (by omega)
                  omega
                have q3 : ((c + 1 : Nat) : Int) * B * low = (((c + 1) * B * low : Nat) : Int) := by rw [Int.natCast_mul, Int.natCast_mul]
                omega
end
end K17
set_option Elab.async false
set_option linter.all false
set_option maxRecDepth 100000
set_option pp.maxSteps 900
set_option maxHeartbeats 4000000
namespace K17
open PySem PySem.Spec PyProof.Rows L2 LamX NdefX
section
variable {P : Program} {w : World} {K : PySem.W.Frag} {mg : Str → Option Value} {base : Heap}
/-- a row whose closure may be found, with places up to Z -/
def ClOk (f : Nat → Int) (Z : Nat) : Prop := ∃ (M N B : Nat) (G : Int), 0 < M ∧ RW.Gains f M G N ∧ N ≤ 900 ∧ M ≤ 900 ∧ (∀ n, n ≤ N + M + 1 → - B ≤ f n ∧ f n ≤ B) ∧ M * B + 2 * B * (N + M + 1) ≤ 900000000 ∧
  (N + M) * (N + M * (N + M) + 1) + (N + M) ≤ Z ∧ (N + 1) + M + M * (N + 1 + M) + (M + 1) * (M * B + 2 * B * (N + M + 1)) * (N + 1) + 1 + M ≤ Z ∧ Z ≤ 8000000
/-- how a row goes on -/
def Goes (f : Nat → Int) (Z : Nat) : Prop := ∃ (M N : Nat) (G : Int), 0 < M ∧ RW.Gains f M G N ∧ N + M ≤ Z
theorem sc_closure_of : FnScope ["row", "rate", "place", "begin", "many", "gain", "found"] ["row"] (defScope (topS 70)) := ⟨rfl, rfl, rfl, by decide +kernel, rfl, by decide +kernel, by decide +kernel⟩
def spClosure (K : PySem.W.Frag) : Sp := fun vs H Q _ => ∃ (p : Addr) (f : Nat → Int) (Z : Nat), vs = [.ref p] ∧ IsRow K H p f ∧ ClOk f Z ∧ ∀ r H' cl, Gr K H H' → IsRow K H' r cl → RW.IsCl f cl → Goes cl Z → Q (.ref r) H'
theorem ok_closure_of (X : Txt K mg) : Ok P w K mg base CX0 7 "closure_of" ["row"] (spClosure K) := by
  refine ok_def0 X 53 rfl sc_closure_of (by decide +kernel) (fun vs H Q E h => ?_) (fun _ _ _ _ _ _ us hl => match us, hl with | [_], _ => rfl) (fun f cdv A outer s H vs Q E hr h => ?_)
  · obtain ⟨p, f, Z, rfl, _⟩ := h; rfl
  · obtain ⟨p, F, Z, rfl, r1, ⟨M, N, B, G, hM, hG, hN9, hM9, hB, hD, hZ1, hZ2, hZ⟩, fin⟩ := h
    obtain ⟨t, dx, x1, y1, ct, et, ⟨zh, zc⟩, z1, he, hr'⟩ := r1.fields
    have O1 : RowO K H p t := ⟨dx, x1, y1, z1, he, hr'⟩
    have c0 := ct.ne
    have gt := (RW.ev_gains ct.ne).congr et
    obtain ⟨cl, hcl⟩ := RW.cl_ex F
    have rest : ∃ t, PSs (cxOf CX0 P w K mg base ["row", "rate", "place", "begin", "many", "gain", "found"] "closure_of" (defScope (topS 70)) f cdv A outer s H E).nox ((defBody (topS 70)).drop 3) t ∧
        ∀ (H' : Hp) (j1 j2 : Option V) (b k : Nat) (G : Int), Gr K H H' → 0 < k → b + k ≤ Z → RW.Gains cl k G b →
          t { nx := fun _ H' => Q .non H', rt := Q } [some (.ref p), j1, j2, some (.int b), some (.int k), some (.int G), none] H' := by
      refine ⟨_, (pss_cons (ps_set (i := 6) sc_closure_of.nd rfl (.inl rfl) (pe_ix (ixT_K (K := K)) (pe_o (ok_sums_to X) hr pass0 (pa_cons (pv 0) (pa_cons (pe_op op_add (pv 3) (pv 4)) pa_nil))) pe_int (fun _ _ => rfl)))
  (pss_one (ps_ret (row_K X (ok_init X) hr pass0 (pa_cons (pe_slice (slL_K (K := K)) (pv 6) po_none (po_some (pv 3))) (pa_cons (pe_slice (slL_K (K := K)) (pv 6) (po_some (pv 3)) (po_some (pe_op op_add (pv 3) (pv 4)))) (pa_cons (pv 5) pa_nil))))))), ?_⟩
      intro H' j1 j2 b k G gr k0 hbz hg
      refine ⟨_, rfl, _, rfl, _, rfl, _, _, rfl, rfl, p, F, b + k, rfl, gr.row r1, by omega, fun H1 u a a2 cl' g1 hu ha hcl' => ?_⟩
      have ecl : cl' = cl := funext fun n => hcl'.uniq hcl n
      subst ecl
      have gr1 := gr.trans g1
      refine ⟨u, _, _, _, rfl, rfl, .of hu, rfl, ?_⟩
      refine ⟨_, rfl, _, rfl, _, rfl, slL (ys := ((List.range b).map cl').map V.int) ha ?_ fun l5 n5 => ?_⟩
      · rw [cut_take (by simp; omega), ← List.map_take, ← List.map_take, List.take_range, Nat.min_eq_left (by omega)]
      have ha5 := (Ge.new (T := tbs K) (o := .lst (((List.range b).map cl').map V.int)) n5).lst ha
      refine ⟨_, rfl, _, rfl, _, rfl, _, rfl, _, rfl, _, _, rfl, rfl, _, rfl, slL (ys := (((List.range k).map fun i => cl' (b + i))).map V.int) ha5 ?_ fun l6 n6 => ?_⟩
      · show cutV _ (some (b : Int)) (some ((b + k : Nat) : Int)) = _
        rw [cut_mid (by simp) (by omega), ← List.map_drop, ← List.map_drop, ← List.map_take, ← List.map_take]
        congr 1
        apply List.ext_getElem
        · simp; omega
        · intro i h1 h2; simp
      have g6 : Gr K H1 (upd (upd H1 l5 (HO.lst (((List.range b).map cl').map V.int))) l6 (HO.lst (((List.range k).map fun i => cl' (b + i)).map V.int))) := (Ge.new n5).trans (Ge.new n6)
      refine ⟨_, rfl, fun x dx nx nd ne => ?_⟩
      refine mkRow (.inl ?_) (.inl upd_same) (by simpa using k0) (by simp; omega) (by simp; omega) (fun p H' g7 r7 => fin p H' cl' ((gr1.trans g6).trans g7) (r7.congr fun n => RW.ev_rng k0 hg n) hcl ⟨k, b, G, k0, hg, hbz⟩) x dx nx nd ne
      rw [upd_ne (ne_of_none upd_same n6)]
      exact upd_same
    obtain ⟨tr, htr, hrest⟩ := rest
    refine ⟨_, (pss_cons (ps_asg (pe_o (ok_mean_of X) hr pass0 (pa_cons (pv 0) pa_nil)) (tup_K (K := K) (pgs_cons (pg_name (i := 1) sc_closure_of.nd rfl (.inl rfl)) (pgs_cons (pg_name (i := 2) sc_closure_of.nd rfl (.inl rfl)) pgs_nil))))
  (pss_cons (ps_set (i := 3) sc_closure_of.nd rfl (.inl rfl) (pe_ifExp (pt_cmpR op_isN (pv 2) pe_non (nomark _)) (pe_o (ok_settled_above X) hr pass0 (pa_cons (pv 0) pa_nil)) (pe_o (ok_settled_at_mean X) hr pass0 (pa_cons (pv 0) (pa_cons (pv 2) pa_nil)))))
  (pss_cons (ps_asg (pe_ifExp (pt_cmpR op_isN (pv 2) pe_non (nomark _)) (pe_tup (pa_cons (pe_callB (len_K (K := K)) (by rfl) X.b_len (by decide +kernel) (pa_cons (m0_K X (by decide +kernel) (ok_cycle X) hr pass0 (pv 0)) pa_nil)) (pa_cons (m0_K X (by decide +kernel) (ok_gain X) hr pass0 (pv 0)) pa_nil))) (pe_tup (pa_cons (pv 2) (pa_cons (m1_K X (by decide +kernel) (ok_at X) hr pass0 (pv 0) (pa_cons (pv 2) pa_nil)) pa_nil)))) (tup_K (K := K) (pgs_cons (pg_name (i := 4) sc_closure_of.nd rfl (.inl rfl)) (pgs_cons (pg_name (i := 5) sc_closure_of.nd rfl (.inl rfl)) pgs_nil))))
  htr))), ?_⟩
    have hG' := hG.congr fun n => (et n).symm
    have hth : t.h.length ≤ N := ct.head_le hM hG'
    have htd : t.c.length ∣ M := Nat.dvd_of_mod_eq_zero (ct.dvd ⟨hM, _, _, hG'⟩)
    have htc : t.c.length ≤ M := Nat.le_of_dvd hM htd
    have hg1 := gt t.h.length (Nat.le_refl _)
    have hb1 := hB (t.h.length + t.c.length) (by omega)
    have hb2 := hB t.h.length (by omega)
    refine ⟨_, rfl, p, F, t, rfl, r1, O1, ct, et, by omega, by omega, fun H1 u rt g1 hu habove => ?_, fun H1 u rt k g1 hu k1 k2 mean => ?_⟩
    · refine ⟨u, _, rfl, .of hu, rfl, _, _, rfl, _, _, rfl, rfl, ?_⟩
      refine ⟨_, rfl, rfl, _, rfl, iteDT rfl ?_⟩
      have hDB : ∀ n : Nat, 1 ≤ n → n < max 1 t.h.length + t.c.length → t.c.length * F n - t.g * n ≤ ((M * B + 2 * B * (N + M + 1) : Nat) : Int) := fun n n1 n2 => by
        have b1 := hB n (by omega)
        have q1 : (t.c.length : Int) * F n ≤ t.c.length * B := Int.mul_le_mul_of_nonneg_left b1.2 (by omega)
        have q2 : (t.c.length : Int) * B ≤ M * B := Int.mul_le_mul_of_nonneg_right (by omega) (by omega)
        have q3 : - t.g * n ≤ (2 * B) * n := Int.mul_le_mul_of_nonneg_right (by omega) (by omega)
        have q4 : (2 * B : Int) * n ≤ (2 * B) * (N + M + 1) := Int.mul_le_mul_of_nonneg_left (by omega) (by omega)
        rw [Int.neg_mul] at q3
        have e : ((M * B + 2 * B * (N + M + 1) : Nat) : Int) = M * B + (2 * B) * (N + M + 1) := by simp [Int.natCast_add, Int.natCast_mul]
        omega
      refine ⟨_, rfl, p, F, t, M * B + 2 * B * (N + M + 1), rfl, g1.row r1, g1.rowO O1, ct, et, by omega, by omega, habove, by omega, hDB, fun H2 b g2 hg2 hb2 => ?_⟩
      have gr2 := g1.trans g2
      refine ⟨_, rfl, rfl, _, rfl, iteDT rfl ?_⟩
      refine ⟨_, rfl, p, dx, _, rfl, gr2.at z1, rfl, p, t, rfl, gr2.rowO O1, fun H3 l3 g3 h3 => ?_⟩
      have gr3 := gr2.trans g3
      refine ⟨l3, _, rfl, .inl (.of h3), ?_⟩
      rw [List.length_map]
      refine ⟨_, rfl, p, dx, _, rfl, gr3.at z1, rfl, p, t, rfl, gr3.rowO O1, ?_⟩
      refine ⟨by show 2 ≤ sizeLine; decide, fun tp ntp => ?_⟩
      refine ⟨tp, _, rfl, .of upd_same, rfl, _, _, rfl, _, _, rfl, rfl, ?_⟩
      refine hrest _ _ _ b t.c.length t.g (gr3.trans (Ge.new ntp)) c0 ?_ (hg2 cl hcl)
      have h1 : max 1 t.h.length ≤ N + 1 := by omega
      have h2 : t.c.length * (max 1 t.h.length + t.c.length) ≤ M * (N + 1 + M) := Nat.mul_le_mul htc (by omega)
      have h3 : (t.c.length + 1) * (M * B + 2 * B * (N + M + 1)) * max 1 t.h.length ≤ (M + 1) * (M * B + 2 * B * (N + M + 1)) * (N + 1) := Nat.mul_le_mul (Nat.mul_le_mul_right _ (by omega)) h1
      omega
    · refine ⟨u, _, rfl, .of hu, rfl, _, _, rfl, _, _, rfl, rfl, ?_⟩
      refine ⟨_, rfl, rfl, _, rfl, iteDF (by simp) ?_⟩
      have bk := hB k (by omega)
      have B9 : B ≤ 900000000 := by
        have : B * 1 ≤ 2 * B * (N + M + 1) := by
          rw [Nat.mul_comm 2 B, Nat.mul_assoc]
          exact Nat.mul_le_mul_left _ (by omega)
        omega
      refine ⟨_, rfl, _, rfl, p, F, t, k, rfl, g1.row r1, g1.rowO O1, ct, et, by omega, by omega, k1, k2, ⟨by omega, by omega⟩, mean, fun H2 b g2 hg2 hb2 => ?_⟩
      have gr2 := g1.trans g2
      refine ⟨_, rfl, rfl, _, rfl, iteDF (by simp) ?_⟩
      refine ⟨_, rfl, _, rfl, p, dx, _, rfl, gr2.at z1, rfl, _, rfl, p, F, k, rfl, gr2.row r1, by omega, ?_⟩
      refine ⟨by show 2 ≤ sizeLine; decide, fun tp ntp => ?_⟩
      refine ⟨tp, _, rfl, .of upd_same, rfl, _, _, rfl, _, _, rfl, rfl, ?_⟩
      refine hrest _ _ _ b k (F k) (gr2.trans (Ge.new ntp)) k1 ?_ (hg2 cl hcl)
      have h1 : t.c.length * k ≤ M * (N + M) := Nat.mul_le_mul htc (by omega)
      have h2 : k * (t.h.length + t.c.length * k + 1) ≤ (N + M) * (N + M * (N + M) + 1) := Nat.mul_le_mul (by omega) (by omega)
      omega
theorem sc_closed : FnScope ["row"] ["row"] (defScope (topS 71)) := ⟨rfl, rfl, rfl, by decide +kernel, rfl, by decide +kernel, by decide +kernel⟩
def spClosed (K : PySem.W.Frag) : Sp := spClosure K
theorem ok_closed (X : Txt K mg) : Ok P w K mg base CX0 8 "closed" ["row"] (spClosed K) := by
  refine ok_def0 X 54 rfl sc_closed (by decide +kernel) (fun vs H Q E h => ?_) (fun _ _ _ _ _ _ us hl => match us, hl with | [_], _ => rfl) (fun f cdv A outer s H vs Q E hr h => ?_)
  · obtain ⟨p, f, Z, rfl, _⟩ := h; rfl
  · obtain ⟨p, F, Z, rfl, r1, ok, fin⟩ := h
    refine ⟨_, (pss_cons (ps_expr (pe_o (ok_check_row X) hr pass0 (pa_cons (pv 0) pa_nil)))
  (pss_one (ps_ret (pe_o (ok_closure_of X) hr pass0 (pa_cons (pv 0) pa_nil))))), ?_⟩
    exact ⟨_, rfl, p, F, rfl, r1, _, rfl, p, F, Z, rfl, r1, ok, fin⟩
theorem sc_held : FnScope ["row"] ["row"] (defScope (topS 72)) := ⟨rfl, rfl, rfl, by decide +kernel, rfl, by decide +kernel, by decide +kernel⟩
def spHeld (K : PySem.W.Frag) : Sp := fun vs H Q _ => ∃ (p : Addr) (f : Nat → Int) (Z : Nat), vs = [.ref p] ∧ IsRow K H p f ∧ ClOk (negF f) Z ∧ ∀ r H' cl, Gr K H H' → IsRow K H' r (negF cl) → RW.IsCl (negF f) cl → Goes (negF cl) Z → Q (.ref r) H'
theorem ok_held (X : Txt K mg) : Ok P w K mg base CX0 8 "held" ["row"] (spHeld K) := by
  refine ok_def0 X 55 rfl sc_held (by decide +kernel) (fun vs H Q E h => ?_) (fun _ _ _ _ _ _ us hl => match us, hl with | [_], _ => rfl) (fun f cdv A outer s H vs Q E hr h => ?_)
  · obtain ⟨p, f, Z, rfl, _⟩ := h; rfl
  · obtain ⟨p, F, Z, rfl, r1, ok, fin⟩ := h
    refine ⟨_, (pss_cons (ps_expr (pe_o (ok_check_row X) hr pass0 (pa_cons (pv 0) pa_nil)))
  (pss_one (ps_ret (pe_o (ok_times X) hr pass0 (pa_cons (pe_o (ok_closure_of X) hr pass0 (pa_cons (pe_o (ok_times X) hr pass0 (pa_cons (pv 0) (pa_cons (pe_un un_neg pe_int) pa_nil))) pa_nil)) (pa_cons (pe_un un_neg pe_int) pa_nil)))))), ?_⟩
    refine ⟨_, rfl, p, F, rfl, r1, _, rfl, ?_⟩
    refine ⟨_, rfl, p, F, -1, rfl, r1, ⟨by omega, by omega⟩, fun r H1 g1 r2 => ?_⟩
    have r2' : IsRow K H1 r (negF F) := r2.congr fun n => by show F n * -1 = - F n; omega
    refine ⟨r, negF F, Z, rfl, r2', ok, fun r3 H2 cl g2 r4 hcl ⟨k, b, G, k0, hg, hb⟩ => ?_⟩
    refine ⟨_, rfl, r3, cl, -1, rfl, r4, ⟨by omega, by omega⟩, fun r5 H3 g3 r6 => ?_⟩
    refine fin r5 H3 cl ((g1.trans g2).trans g3) (r6.congr fun n => by show cl n * -1 = - cl n; omega) hcl ⟨k, b, -G, k0, hg.neg, hb⟩
end
end K17
set_option Elab.async false
set_option linter.all false
set_option maxRecDepth 100000
set_option pp.maxSteps 900
set_option maxHeartbeats 4000000
namespace K17
open PySem PySem.Spec PyProof.Rows L2 LamX NdefX
section
theorem lay_ints : ∀ ns : List Int, PyData.canLayAll0 (ns.map .int) = true ∧ PyData.depthAll (ns.map .int) = 0 ∧ PyData.eqvAll (ns.map .int) (ns.map .int) = true
  | [] => ⟨rfl, rfl, rfl⟩
  | n :: ns => by
    obtain ⟨a, b, c⟩ := lay_ints ns
    refine ⟨?_, ?_, ?_⟩
    · show (PyData.canLay0 (.int n) && PyData.canLayAll0 (ns.map .int)) = true
      rw [a]; rfl
    · show max (PyData.depth (.int n)) (PyData.depthAll (ns.map .int)) = 0
      rw [b]; rfl
    · show (PyData.eqv (.int n) (.int n) && PyData.eqvAll (ns.map .int) (ns.map .int)) = true
      rw [c]
      show ((n == n) && true) = true
      simp
theorem dp_ints {K : PySem.W.Frag} {H : Hp} : ∀ ns : List Int, DpAll K H (ns.map V.int) (ns.map .int)
  | [] => .nil
  | n :: ns => .cons (.int n) (dp_ints ns)
def triD (t : RW.Tri) : PyData := .tuple [.tuple (t.h.map .int), .tuple (t.c.map .int), .int t.g]
theorem triD_ok (t : RW.Tri) : SeqAt.shaped (triD t) = true ∧ PyData.eqv (triD t) (triD t) = true := by
  obtain ⟨a1, b1, c1⟩ := lay_ints t.h
  obtain ⟨a2, b2, c2⟩ := lay_ints t.c
  constructor
  · show (PyData.canLay0 (triD t) && decide ((triD t).depth ≤ 64)) = true
    have h1 : PyData.canLay0 (triD t) = true := by
      show (PyData.canLayAll0 (t.h.map .int) && (PyData.canLayAll0 (t.c.map .int) && (PyData.canLay0 (.int t.g) && true))) = true
      rw [a1, a2]; rfl
    have h2 : (triD t).depth ≤ 64 := by
      show max (PyData.depthAll (t.h.map .int) + 1) (max (PyData.depthAll (t.c.map .int) + 1) (max 0 0)) + 1 ≤ 64
      rw [b1, b2]; decide
    rw [h1, decide_eq_true h2]; rfl
  · show (PyData.eqvAll (t.h.map .int) (t.h.map .int) && (PyData.eqvAll (t.c.map .int) (t.c.map .int) && ((t.g == t.g) && true))) = true
    rw [c1, c2]; simp
end
section
variable {P : Program} {w : World} {K : PySem.W.Frag} {mg : Str → Option Value} {base : Heap}
/-- two rows that are one function -/
def SameRow (K : PySem.W.Frag) (a b : Addr) (H : Hp) : Prop := ∃ f, IsRow K H a f ∧ IsRow K H b f
theorem sc_m___eq__ : FnScope ["self", "other"] ["self", "other"] (defScope (inClass (topS 21) 8)) := ⟨rfl, rfl, rfl, by decide +kernel, rfl, by decide +kernel, by decide +kernel⟩
theorem ok_eq (X : Txt K mg) : OkM P w K mg base CX0 1 "__eq__" ["self", "other"] (spEq (SameRow K)) := by
  refine ok_met0 X 87 rfl sc_m___eq__ (fun vs H Q E h => ?_) (fun _ _ _ _ _ _ us hl => match us, hl with | [_, _], _ => rfl) (fun f cdv A outer s H vs Q E hr h => ?_)
  · obtain ⟨a, b, rfl, _⟩ := h; rfl
  · obtain ⟨a, b, rfl, ⟨F, r1, r2⟩, q⟩ := h
    refine ⟨_, (pss_cons (ps_if (pt_not (pt_val (pe_callB (isi_K (K := K)) (by rfl) X.b_isinstance (by decide +kernel) (pa_cons (pv 1) (pa_cons (pe_glob (v := .ref (rowC K)) (by rfl) (X.g "Row" (by decide +kernel)) rfl) pa_nil)))))
  (pss_one (ps_ret pe_bl))
  pss_nil)
  (pss_one (ps_ret (pe_cmpR (eqD_K (K := K) hr.units) (pe_tup (pa_cons (fld_K (K := K) (pv 0)) (pa_cons (fld_K (K := K) (pv 0)) (pa_cons (fld_K (K := K) (pv 0)) pa_nil)))) (pe_tup (pa_cons (fld_K (K := K) (pv 1)) (pa_cons (fld_K (K := K) (pv 1)) (pa_cons (fld_K (K := K) (pv 1)) pa_nil)))) (nomark _))))), ?_⟩
    obtain ⟨t, dx, x1, y1, ct, et, _, z1, he, hr'⟩ := r1.fields
    obtain ⟨u, dy, x2, y2, cu, eu, _, z2, he2, hr2⟩ := r2.fields
    have etu : u = t := RW.canon_uniq cu ct fun n => (eu n).trans (et n).symm
    subst etu
    refine ⟨_, rfl, _, _, _, _, true, rfl, .own _, tyRow X r2, X.rr, true, rfl, ifF ?_⟩
    refine ⟨_, rfl, a, _, dx, _, _, rfl, z1, X.cls, X.at1, rfl, ?_⟩
    refine ⟨_, rfl, a, _, dx, _, _, rfl, z1, X.cls, X.at2, rfl, ?_⟩
    refine ⟨_, rfl, a, _, dx, _, _, rfl, z1, X.cls, X.at3, rfl, ?_⟩
    refine ⟨by show 3 ≤ sizeLine; decide, fun tp1 n1 => ?_⟩
    have k1 : ∀ {p : Addr} {o : HO}, H p = some o → upd H tp1 (.tup [.ref x1, .ref y1, .int u.g]) p = some o := fun h => by rw [upd_ne (ne_of_none h n1)]; exact h
    have a1 : upd H tp1 (.tup [.ref x1, .ref y1, .int u.g]) tp1 = some (.tup [.ref x1, .ref y1, .int u.g]) := upd_same
    have e1 : Ext H (upd H tp1 (.tup [.ref x1, .ref y1, .int u.g])) := Ext.upd n1
    generalize upd H tp1 (.tup [.ref x1, .ref y1, .int u.g]) = H1 at k1 a1 e1 ⊢
    refine ⟨_, rfl, b, _, dy, _, _, rfl, k1 z2, X.cls, X.at1, rfl, ?_⟩
    refine ⟨_, rfl, b, _, dy, _, _, rfl, k1 z2, X.cls, X.at2, rfl, ?_⟩
    refine ⟨_, rfl, b, _, dy, _, _, rfl, k1 z2, X.cls, X.at3, rfl, ?_⟩
    refine ⟨by show 3 ≤ sizeLine; decide, fun tp2 n2 => ?_⟩
    have e2 : Ext H1 (upd H1 tp2 (.tup [.ref x2, .ref y2, .int u.g])) := Ext.upd n2
    have a2 : upd H1 tp2 (.tup [.ref x2, .ref y2, .int u.g]) tp2 = some (.tup [.ref x2, .ref y2, .int u.g]) := upd_same
    have a1' := e2 _ _ a1
    generalize upd H1 tp2 (.tup [.ref x2, .ref y2, .int u.g]) = H2 at e2 a2 a1' ⊢
    have D1 : Dp K H2 (.ref tp1) (triD u) := .tup (.of a1') (.cons (.tup (.of (e2 _ _ (k1 he))) (dp_ints _)) (.cons (.tup (.of (e2 _ _ (k1 hr'))) (dp_ints _)) (.cons (.int _) .nil)))
    have D2 : Dp K H2 (.ref tp2) (triD u) := .tup (.of a2) (.cons (.tup (.of (e2 _ _ (k1 he2))) (dp_ints _)) (.cons (.tup (.of (e2 _ _ (k1 hr2))) (dp_ints _)) (.cons (.int _) .nil)))
    refine ⟨triD u, triD u, D1, D2, (triD_ok u).1, (triD_ok u).1, ?_⟩
    rw [(triD_ok u).2]
    exact q H2 (e1.trans e2)
end
end K17
set_option Elab.async false
set_option linter.all false
set_option maxRecDepth 100000
set_option maxHeartbeats 4000000
/-! what is said of BadRow; isinstance of anything that the law passes -/
namespace K17
open PySem PySem.Spec PyProof.Rows L2 LamX
abbrev badC (K : PySem.W.Frag) : Addr := He.ga K "BadRow"
structure TxtB (P : Program) (K : PySem.W.Frag) (mg : Str → Option Value) : Prop where
  t : Txt K mg
  bad : PySem.BadX.BadTxt P K mg (badC K) (He.ma K (badC K) "__init__")
  ne : PySem.W.findIn K (.ref (rowC K)) "__ne__" = some (some (.builtin "object.__ne__"))
/-- a value and its type, a def as a value too -/
inductive TyF (K : PySem.W.Frag) (H : Hp) : V → Value → Prop where
  | of {x : V} {t : Value} (h : TyX K H x t) : TyF K H x t
  | fn {a : Addr} {o : Obj} (e : K.lookup a = some o) (c : o.cls = .type "function") : TyF K H (.ref a) (.type "function")
def rIsiF (K : PySem.W.Frag) : List V → Hp → VK → Prop := fun xs H Q => ∃ (x c : V) (t u : Value) (b : Bool), xs = [x, c] ∧ ClsV c u ∧ TyF K H x t ∧ PySem.W.kitOne K t u = some b ∧ Q (.bl b) H
def rIsiFT (K : PySem.W.Frag) : List V → Hp → VK → Prop := fun xs H Q => ∃ (x : V) (tp : Addr) (cs : List V) (t : Value) (us : List Value) (b : Bool), xs = [x, .ref tp] ∧ H tp = some (.tup cs) ∧ Paired ClsV cs us ∧ TyF K H x t ∧ PySem.W.kitAny K t us = some b ∧ Q (.bl b) H
section
variable {X : Cx}
theorem kitF {pins : List (Addr × Obj)} {σ : L2.St} {H : Hp} {s : Shared} {x : V} {u t : Value} (I : Inv X pins σ H s) (rx : RelV x u) (ty : TyF X.K H x t) : ∃ Z : Heap → Prop, PySem.W.KitX X.K u t Z ∧ Z s.heap ∧ u ≠ .builtin "__main__.__loader__#opaque" := by
  rcases ty with ⟨h⟩ | ⟨e, c⟩
  · exact kit_of I rx h
  · have eu : u = Value.ref _ := rx
    subst eu
    exact ⟨_, PySem.FnIs.kit_fn, ⟨_, I.kIn _ _ e, c⟩, fun z => nomatch z⟩
theorem isiF (hK : True) : CallR X (.builtin "isinstance") (rIsiF X.K) := by
  rintro pins s σ H xs us Q I r ⟨x, c, t, u, b, rfl, k, ty, e, q⟩
  obtain ⟨u1, u2, rfl, r1, r2⟩ := vals2 r
  obtain rfl := k.eq r2
  obtain ⟨Z, z1, z2, z3⟩ := kitF I r1 ty
  exact PySem.W.kia_one z1 I.kIn z2 e z3 fun tk => ⟨.bl b, H, I.tok tk, rfl, q⟩
theorem isiFT (hK : True) : CallR X (.builtin "isinstance") (rIsiFT X.K) := by
  rintro pins s σ H xs us Q I r ⟨x, tp, cs, t, ws, b, rfl, hT, k, ty, e, q⟩
  obtain ⟨u1, u2, rfl, r1, r2⟩ := vals2 r
  obtain rfl : u2 = Value.ref tp := r2
  obtain ⟨Z, z1, z2, z3⟩ := kitF I r1 ty
  obtain ⟨_, its, rv, o, o1, o2, n, o3⟩ := (show ObjOk X.prog X.w H s.heap tp (.tup cs) from I.hok tp _ hT)
  obtain rfl := ClsV.all k rv
  obtain ⟨oc, od, dt, sl⟩ := o
  simp only at o2 o3
  subst o2 o3
  exact PySem.W.kia_tup z1 I.kIn z2 o1 e z3 fun tk => ⟨.bl b, H, I.tok tk, rfl, q⟩
theorem isiF_K {K : PySem.W.Frag} (hK : X.K = K := by rfl) : CallR X (.builtin "isinstance") (rIsiF K) := by subst hK; exact isiF trivial
theorem isiFT_K {K : PySem.W.Frag} (hK : X.K = K := by rfl) : CallR X (.builtin "isinstance") (rIsiFT K) := by subst hK; exact isiFT trivial
end
/-- what is no row -/
def NotRow (K : PySem.W.Frag) (H : Hp) (v : V) : Prop := ∃ t, TyF K H v t ∧ PySem.W.kitOne K t (.ref (rowC K)) = some false
theorem TyX.gr {K : PySem.W.Frag} {H H' : Hp} {v : V} {t : Value} (g : Gr K H H') (h : TyX K H v t) : TyX K H' v t := by
  cases h with
  | base b =>
    cases b with
    | non => exact .base .non
    | bl x => exact .base (.bl x)
    | int i => exact .base (.int i)
    | str x => exact .base (.str x)
    | flt x => exact .base (.flt x)
    | lst e => exact .base (.lst (g.at e))
    | frz e => exact .base (.frz (g.at e))
    | tup e => exact .base (.tup (g.at e))
    | dK e => exact .base (.dK (g.at e))
    | dT e => exact .base (.dT (g.at e))
    | ins e c1 c2 c3 c4 c5 => exact .base (.ins (g.at e) c1 c2 c3 c4 c5)
  | byt b => exact .byt b
  | set e => exact .set (g.at e)
  | kList e c => exact .kList e c
  | kTuple e c => exact .kTuple e c
  | kDict e c => exact .kDict e c
  | fTuple e => exact .fTuple (g.at e)
  | fDict e => exact .fDict (g.at e)
theorem NotRow.gr {K : PySem.W.Frag} {H H' : Hp} {v : V} (g : Gr K H H') (h : NotRow K H v) : NotRow K H' v := by
  obtain ⟨t, ty, e⟩ := h
  refine ⟨t, ?_, e⟩
  cases ty with
  | of h => exact .of (TyX.gr g h)
  | fn e1 c => exact .fn e1 c
/-- how BadRow(v) leaves -/
def Leaves (K : PySem.W.Frag) (H : Hp) (v : V) (E : XK) : Prop := ∀ H' d, Gr K H H' → H' d = some (.xd [("thing", v)]) → E (.ref (badC K)) (some d) H'
end K17
set_option Elab.async false
set_option linter.all false
set_option maxRecDepth 100000
set_option pp.maxSteps 900
set_option maxHeartbeats 4000000
namespace K17
open PySem PySem.Spec PyProof.Rows L2 LamX NdefX
section
variable {P : Program} {w : World} {K : PySem.W.Frag} {mg : Str → Option Value} {base : Heap}
def spCheckRowB (K : PySem.W.Frag) : Sp := fun vs H Q E => ∃ v, vs = [v] ∧ NotRow K H v ∧ Leaves K H v E
theorem ok_check_row_bad (X2 : TxtB P K mg) : Ok P w K mg base (L2.CX P w) 2 "check_row" ["thing"] (spCheckRowB K) := by
  have X := X2.t
  refine ok_def X 10 rfl sc_check_row (by decide +kernel) (fun vs H Q E h => ?_) (fun _ _ _ _ _ _ us hl => match us, hl with | [_], _ => rfl) (fun f cdv A outer s H vs Q E hr h => ?_)
  · obtain ⟨v, rfl, _⟩ := h; rfl
  · obtain ⟨v, rfl, ⟨t, ty, e⟩, lv⟩ := h
    refine ⟨_, (pss_one (ps_if (pt_not (pt_val (pe_callB (isiF_K (K := K)) (by rfl) X.b_isinstance (by decide +kernel) (pa_cons (pv 0) (pa_cons (pe_glob (v := .ref (rowC K)) (by rfl) (X.g "Row" (by decide +kernel)) rfl) pa_nil)))))
  (pss_one (ps_raiseBad rfl X2.bad hr (L2.takes_of rfl rfl rfl rfl) (pa_cons (pv 0) pa_nil)))
  pss_nil)), ?_⟩
    refine ⟨_, rfl, _, _, _, _, false, rfl, .own _, ty, e, false, rfl, ifT ?_⟩
    refine ⟨_, rfl, v, rfl, fun d hd => ?_⟩
    exact lv _ d (Ge.new hd) upd_same
/-- an own exception of a call that leaves this def too -/
theorem passE {X : Cx} {E : XK} (hs : X.stack = X.env :: X.outer := by rfl) (hf : X.env.frame = some X.env.locals := by rfl) (hex : X.ex = [] := by rfl) {E1 : Value → Shared → Prop}
    (hx : X.xe = fun e s' => wpAny (model X.prog X.w) X.A (leaving X.env e) (fun _ s'' => L2.CX X.prog X.w X.outer X.H_0 X.s_0 E e s'') E1 s' := by rfl) : Passes (L2.CX X.prog X.w) X E :=
  L2.passes_call (L2.takes_of hs hf hex hx) fun _ _ _ _ h => h
def spGapUpB (K : PySem.W.Frag) : Sp := fun vs H Q E => ∃ v1 v2, vs = [v1, v2] ∧ ((NotRow K H v1 ∧ Leaves K H v1 E) ∨ ((∃ p f, v1 = .ref p ∧ IsRow K H p f) ∧ NotRow K H v2 ∧ Leaves K H v2 E))
theorem ok_gap_up_bad (X2 : TxtB P K mg) : Ok P w K mg base (L2.CX P w) 5 "gap_up" ["one", "other"] (spGapUpB K) := by
  have X := X2.t
  refine ok_def X 45 rfl sc_gap_up (by decide +kernel) (fun vs H Q E h => ?_) (fun _ _ _ _ _ _ us hl => match us, hl with | [_, _], _ => rfl) (fun f cdv A outer s H vs Q E hr h => ?_)
  · obtain ⟨v1, v2, rfl, _⟩ := h; rfl
  · obtain ⟨v1, v2, rfl, ⟨n1, lv⟩ | ⟨⟨p, F, rfl, r1⟩, n2, lv⟩⟩ := h
    · refine ⟨_, (pss_cons (ps_expr (pe_o (ok_check_row_bad X2) hr passE (pa_cons (pv 0) pa_nil)))
  (pss_cons (ps_expr (pe_o (ok_check_row X) hr pass0 (pa_cons (pv 1) pa_nil)))
  (pss_one (ps_ret (pe_o (ok_greatest_lead X) hr pass0 (pa_cons (pv 0) (pa_cons (pv 1) pa_nil))))))), ?_⟩
      exact ⟨_, rfl, v1, rfl, n1, lv⟩
    · refine ⟨_, (pss_cons (ps_expr (pe_o (ok_check_row X) hr pass0 (pa_cons (pv 0) pa_nil)))
  (pss_cons (ps_expr (pe_o (ok_check_row_bad X2) hr passE (pa_cons (pv 1) pa_nil)))
  (pss_one (ps_ret (pe_o (ok_greatest_lead X) hr pass0 (pa_cons (pv 0) (pa_cons (pv 1) pa_nil))))))), ?_⟩
      exact ⟨_, rfl, p, F, rfl, r1, _, rfl, v2, rfl, n2, lv⟩
/-- what gap_across refuses -/
def BadG (K : PySem.W.Frag) (H : Hp) (v : V) : Prop := NotRow K H v ∨ ∃ p f, v = .ref p ∧ IsRow K H p f ∧ ¬ Rising f
def spGapB (K : PySem.W.Frag) : Sp := fun vs H Q E => ∃ v1 v2, vs = [v1, v2] ∧ ((BadG K H v1 ∧ Leaves K H v1 E) ∨ ((∃ p f, v1 = .ref p ∧ IsRow K H p f ∧ Rising f) ∧ BadG K H v2 ∧ Leaves K H v2 E))
theorem BadG.gr {H H' : Hp} {v : V} (g : Gr K H H') (h : BadG K H v) : BadG K H' v := by
  rcases h with h | ⟨p, f, e, r, n⟩
  · exact .inl (h.gr g)
  · exact .inr ⟨p, f, e, g.row r, n⟩
theorem ok_gap_across_bad (X2 : TxtB P K mg) : Ok P w K mg base (L2.CX P w) 7 "gap_across" ["one", "other"] (spGapB K) := by
  have X := X2.t
  refine ok_def X 47 rfl sc_gap_across (by decide +kernel) (fun vs H Q E h => ?_) (fun _ _ _ _ _ _ us hl => match us, hl with | [_, _], _ => rfl) (fun f cdv A outer s H vs Q E hr h => ?_)
  · obtain ⟨v1, v2, rfl, _⟩ := h; rfl
  · obtain ⟨v1, v2, rfl, h⟩ := h
    refine ⟨_, (pss_cons (ps_for (passes_of rfl) rfl (piT_K (K := K) (pe_tup (pa_cons (pv 0) (pa_cons (pv 1) pa_nil)))) (pg_name (i := 2) sc_gap_across.nd rfl (.inl rfl))
  (pss_one (ps_if (PW.pt (pw_or (pt_not (pt_val (pe_callB (isiF_K (K := K)) (by rfl) X.b_isinstance (by decide +kernel) (pa_cons (pv 2) (pa_cons (pe_glob (v := .ref (rowC K)) (by rfl) (X.g "Row" (by decide +kernel)) rfl) pa_nil))))) (pw_or1 (pt_not (pt_val (pe_o (ok_is_rising X) hr pass0 (pa_cons (pv 2) pa_nil)))))))
  (pss_one (ps_raiseBad rfl X2.bad hr (L2.takes_of rfl rfl rfl rfl) (pa_cons (pv 2) pa_nil)))
  pss_nil)))
  (pss_cons (ps_if (PW.pt (pw_and (pt_cmpR op_gt (m0_K X (by decide +kernel) (ok_gain X) hr pass0 (pv 0)) pe_int (nomark _)) (pw_and1 (pt_cmpR op_gt (m0_K X (by decide +kernel) (ok_gain X) hr pass0 (pv 1)) pe_int (nomark _)))))
  (pss_cons (ps_set (i := 3) sc_gap_across.nd rfl (.inl rfl) (pe_o (ok_greatest_lead X) hr pass0 (pa_cons (pe_o (ok_when_of X) hr pass0 (pa_cons (pv 1) pa_nil)) (pa_cons (pe_o (ok_when_of X) hr pass0 (pa_cons (pv 0) pa_nil)) pa_nil))))
  (pss_one (ps_ret (pe_ifExp (pt_cmpR op_isN (pv 3) pe_non (nomark _)) pe_non (pe_callB (call_max2 rfl) (by rfl) X.b_max (by decide +kernel) (pa_cons pe_int (pa_cons (pv 3) pa_nil)))))))
  pss_nil)
  (pss_cons (ps_if (pt_cmpR op_gt (m0_K X (by decide +kernel) (ok_gain X) hr pass0 (pv 0)) pe_int (nomark _))
  (pss_one (ps_ret pe_non))
  pss_nil)
  (pss_cons (ps_set (i := 4) sc_gap_across.nd rfl (.inl rfl) (pe_lst pa_nil))
  (pss_cons (ps_for (passes_of rfl) rfl (pi_range1 (by rfl) X.b_range (pa_cons (pe_op op_add (pe_callB (len_K (K := K)) (by rfl) X.b_len (by decide +kernel) (pa_cons (m0_K X (by decide +kernel) (ok_head X) hr pass0 (pv 0)) pa_nil)) pe_int) pa_nil)) (pg_name (i := 5) sc_gap_across.nd rfl (.inl rfl))
  (pss_cons (ps_set (i := 3) sc_gap_across.nd rfl (.inl rfl) (pe_o (ok_first_with X) hr pass0 (pa_cons (pv 1) (pa_cons (pv 5) (pa_cons (m1_K X (by decide +kernel) (ok_at X) hr pass0 (pv 0) (pa_cons (pv 5) pa_nil)) pa_nil)))))
  (pss_cons (ps_if (pt_cmpR op_isN (pv 3) pe_non (nomark _))
  (pss_one (ps_ret pe_non))
  pss_nil)
  (pss_one (ps_expr (bm_K (K := K) PySem.F.plainAttrs_list PySem.F.slot_list_append PySem.F.type_list_append mt_append (pv 4) (pa_cons (pe_op op_sub (pv 3) (pv 5)) pa_nil)))))))
  (pss_one (ps_ret (pe_callB (max_K (K := K)) (by rfl) X.b_max (by decide +kernel) (pa_cons (pv 4) pa_nil))))))))), ?_⟩
    refine ⟨_, rfl, _, rfl, by show 2 ≤ sizeLine; decide, fun tp ntp => ?_⟩
    have g1 : Gr K H (upd H tp (.tup [v1, v2])) := Ge.new ntp
    have at1 : upd H tp (.tup [v1, v2]) tp = some (.tup [v1, v2]) := upd_same
    generalize upd H tp (.tup [v1, v2]) = H1 at g1 at1 ⊢
    refine ⟨tp, rfl, ⟨_, .of at1⟩, ?_⟩
    rcases h with ⟨b1, lv⟩ | ⟨⟨p0, F0, rfl, r0, ris0⟩, b2, lv⟩
    · have b1 := b1.gr g1
      refine for_tup (K := K) at1 (fun i σ H2 => H2 = H1 ∧ i = 0 ∧ ∃ j, σ = [some v1, some v2, j, none, none, none]) ⟨rfl, rfl, none, rfl⟩ (fun i σ H2 h => by rw [h.1]; exact Ge.refl _) (fun i x σ H2 hx h => ?_) (fun σ H2 h => by exfalso; have := h.2.1; simp at this)
      obtain ⟨rfl, rfl, j, rfl⟩ := h
      cases hx
      rcases b1 with ⟨t, ty, e⟩ | ⟨p, F, rfl, r1, nr⟩
      · refine ⟨_, rfl, _, _, _, _, false, rfl, .own _, ty, e, false, rfl, ifT (ifT ?_)⟩
        exact ⟨_, rfl, _, rfl, fun d hd => lv _ d (g1.trans (Ge.new hd)) upd_same⟩
      · refine ⟨_, rfl, _, _, _, _, true, rfl, .own _, .of (tyRow X r1), X.rr, true, rfl, ifF ?_⟩
        refine ⟨_, rfl, p, F, rfl, r1, fun y => absurd y nr, fun _ => ⟨false, rfl, ifT ?_⟩⟩
        exact ⟨_, rfl, _, rfl, fun d hd => lv _ d (g1.trans (Ge.new hd)) upd_same⟩
    · have b2 := b2.gr g1
      have r0 := g1.row r0
      refine for_tup (K := K) at1 (fun i σ H2 => H2 = H1 ∧ i ≤ 1 ∧ ∃ j, σ = [some (.ref p0), some v2, j, none, none, none]) ⟨rfl, Nat.zero_le _, none, rfl⟩ (fun i σ H2 h => by rw [h.1]; exact Ge.refl _) (fun i x σ H2 hx h => ?_) (fun σ H2 h => by exfalso; have := h.2.1; simp at this)
      obtain ⟨rfl, hi, j, rfl⟩ := h
      match i, hx, hi with
      | 0, hx, _ =>
        cases hx
        refine ⟨_, rfl, _, _, _, _, true, rfl, .own _, .of (tyRow X r0), X.rr, true, rfl, ifF ?_⟩
        refine ⟨_, rfl, p0, F0, rfl, r0, fun _ => ⟨true, rfl, ifF ?_⟩, fun y => absurd ris0 y⟩
        exact ⟨rfl, Nat.le_refl _, _, rfl⟩
      | 1, hx, _ =>
        cases hx
        rcases b2 with ⟨t, ty, e⟩ | ⟨p, F, rfl, r1, nr⟩
        · refine ⟨_, rfl, _, _, _, _, false, rfl, .own _, ty, e, false, rfl, ifT (ifT ?_)⟩
          exact ⟨_, rfl, _, rfl, fun d hd => lv _ d (g1.trans (Ge.new hd)) upd_same⟩
        · refine ⟨_, rfl, _, _, _, _, true, rfl, .own _, .of (tyRow X r1), X.rr, true, rfl, ifF ?_⟩
          refine ⟨_, rfl, p, F, rfl, r1, fun y => absurd y nr, fun _ => ⟨false, rfl, ifT ?_⟩⟩
          exact ⟨_, rfl, _, rfl, fun d hd => lv _ d (g1.trans (Ge.new hd)) upd_same⟩
end
end K17
set_option Elab.async false
set_option linter.all false
set_option maxRecDepth 100000
set_option pp.maxSteps 900
set_option maxHeartbeats 4000000
namespace K17
open PySem PySem.Spec PyProof.Rows L2 LamX NdefX
abbrev refS : Stmt := topS 88
theorem sc_refused : FnScope ["_law_ask", "error"] ["_law_ask"] (defScope refS) := ⟨rfl, rfl, rfl, by decide +kernel, rfl, by decide +kernel, by decide +kernel⟩
/-- what is refused, in a list -/
def refTT (C : Addr) : (XK → Hp → VK → Prop) → Hp → VK → Prop := fun tl H Q =>
  tl (fun cls d H' => cls = .ref C ∧ ∃ (dd : Addr) (v : V), d = some dd ∧ H' dd = some (.xd [("thing", v)]) ∧ ∀ l, H' l = none → Q (.ref l) (upd H' l (.lst [v]))) H fun _ H' => ([] : List V).length ≤ sizeLine ∧ ∀ l, H' l = none → Q (.ref l) (upd H' l (.lst []))
theorem ref_gives {X : Cx} {g C fI : Addr} {cdg : Value} {q : Str} (T : PySem.BadX.BadTxt X.prog X.K X.mg C fI) :
    GivesTo X ["_law_ask", "error"] "_law_refused" (defScope refS) g cdg (defBody refS) "_law_ask" q (refTT C) := by
  intro f c' s H Q tl act hc h
  refine ⟨_, pss_cons (ps_try_as (X := (cxOf C8.CX0 X.prog X.w X.K X.mg X.base ["_law_ask", "error"] "_law_refused" (defScope refS) g cdg X.A X.stack s H C8.E0).nox) (c := .ref C) (i := 1)
      (tb := fun W D σ H => ∃ Ech : XK, (∀ cls d σ' H', Ech cls d H' → σ'.length = 2 → W cls d σ' H') ∧ σ[0]? = some (some (.ref f)) ∧ H c' = some (CodeO c' q) ∧ tl Ech H fun v H' => D.nx σ H')
      rfl rfl sc_refused.nd rfl rfl ⟨by rfl, by decide, .inl T.gC⟩ takes0 (fun W pn xe tk _ => ?_) (fun a oe cls d pn hz hf => pss_one (ps_ret (pe_lst (pa_cons (pe_byBad T hz hf (pv 1)) pa_nil)))))
    (pss_one (ps_ret (pe_lst pa_nil))), ?_⟩
  · refine ⟨fun pins s' σ H' D I h' => ?_⟩
    obtain ⟨Ech, hW, h1, h2, h3⟩ := h'
    have tk2 : L2.Takes ((cxOf C8.CX0 X.prog X.w X.K X.mg X.base ["_law_ask", "error"] "_law_refused" (defScope refS) g cdg X.A X.stack s H C8.E0).tr pn xe) (fun cls d σ H => σ.length = 2 → W cls d σ H) :=
      fun u s' ⟨a, B, sI, pins, σ, H, cls, d, e, I, nb, up, sky, na, os, ag, w⟩ => tk u s' ⟨a, B, sI, pins, σ, H, cls, d, e, I, nb, up, sky, na, os, ag, w I.len⟩
    exact (pss_one (ps_expr (act _ pn xe Ech _ _ tk2 hW))).run pins s' σ H' D I ⟨h1, h2, h3⟩
  · refine ⟨fun cls d H' => cls = .ref C ∧ ∃ (dd : Addr) (v : V), d = some dd ∧ H' dd = some (.xd [("thing", v)]) ∧ ∀ l, H' l = none → Q (.ref l) (upd H' l (.lst [v])), ?_, rfl, hc, h⟩
    rintro cls d σ' H' ⟨rfl, dd, v, rfl, hd, q1⟩ hl
    refine ⟨true, T.te, fun _ a ha => ?_, fun z => Bool.noConfusion z⟩
    have e1 : (σ'.set 1 (some (V.ref a)))[1]? = some (some (V.ref a)) := by rw [List.getElem?_set_self (by omega)]
    exact ⟨_, e1, rfl, rfl, dd, v, rfl, hd, by show 1 ≤ sizeLine; decide, q1⟩
end K17
set_option Elab.async false
set_option linter.all false
set_option maxRecDepth 100000
set_option maxHeartbeats 4000000
/-! draws: a list of three numbers that is written at each draw; heaps that are alike but for it -/
namespace K17
open PySem PySem.Spec PyProof.Rows L2 LamX
/-- the draws at d, at most n of them made -/
def Dr (H : Hp) (d : Addr) (n : Nat) : Prop := ∃ a b c : Int, H d = some (.lst [.int a, .int b, .int c]) ∧ 0 ≤ a ∧ 0 ≤ b ∧ b < 2147483629 ∧ 0 ≤ c ∧ c ≤ n
structure Gd (K : PySem.W.Frag) (d : Addr) (H H' : Hp) : Prop where
  ext : ∀ b o, b ≠ d → H b = some o → (∀ ps, o ≠ .tbl ps) → H' b = some o
  tab : Tabs (tbs K) H → Tabs (tbs K) H'
section
variable {K : PySem.W.Frag} {d b p : Addr} {H H' H1 H2 : Hp} {n m : Nat}
theorem Dr.mono (h : Dr H d n) (k : n ≤ m) : Dr H d m := by
  obtain ⟨x, y, z, e, h1, h2, h3, h4, h5⟩ := h
  exact ⟨x, y, z, e, h1, h2, h3, h4, by omega⟩
theorem Dr.gr (h : Dr H d n) (g : Gr K H H') : Dr H' d n := by
  obtain ⟨x, y, z, e, r⟩ := h
  exact ⟨x, y, z, g.lst e, r⟩
theorem Gd.of (g : Gr K H H') : Gd K d H H' := ⟨fun b o _ e n => g.ext b o e n, g.tab⟩
theorem Gd.refl (H : Hp) : Gd K d H H := Gd.of (Ge.refl H)
theorem Gd.trans (x : Gd K d H H1) (y : Gd K d H1 H2) : Gd K d H H2 := ⟨fun b o nb e n => y.ext b o nb (x.ext b o nb e n) n, fun t => y.tab (x.tab t)⟩
theorem Gd.gr (x : Gd K d H H1) (y : Gr K H1 H2) : Gd K d H H2 := x.trans (Gd.of y)
theorem Gd.put {xs ys : List V} (h : H d = some (.lst xs)) : Gd K d H (upd H d (.lst ys)) :=
  ⟨fun b o nb e _ => by rw [upd_ne nb]; exact e, fun t => tabs_upd t h (by intro _ z; cases z) (by intro _ z; cases z)⟩
theorem Gd.putNew {o o' : HO} (g : Gd K d H H') (hD : H p = none) (h : H' p = some o) (h1 : ∀ ps, o ≠ .tbl ps) (h2 : ∀ φ, o ≠ .ext φ) : Gd K d H (upd H' p o') :=
  ⟨fun b u nb e n => by rw [upd_ne (ne_of_none e hD)]; exact g.ext b u nb e n, fun t => tabs_upd (g.tab t) h h1 h2⟩
theorem Dr.ne {o : HO} (h : Dr H d n) (e : H b = some o) (k : ∀ xs, o ≠ .lst xs) : b ≠ d := fun z => by
  obtain ⟨_, _, _, e2, _⟩ := h
  rw [z, e2] at e
  exact k _ (Option.some.inj e).symm
theorem Gd.at {o : HO} (x : Gd K d H H') (h : Dr H d n) (e : H b = some o) (k : ∀ xs, o ≠ .lst xs := by intro _ z; cases z) (t : ∀ ps, o ≠ .tbl ps := by intro _ z; cases z) : H' b = some o := x.ext b o (h.ne e k) e t
theorem Gd.lst {xs : List V} (x : Gd K d H H') (nb : b ≠ d) (e : H b = some (.lst xs)) : H' b = some (.lst xs) := x.ext b _ nb e (by intro _ z; cases z)
theorem Gd.tup {xs : List V} (x : Gd K d H H') (h : Dr H d n) (e : H b = some (.tup xs)) : H' b = some (.tup xs) := x.at h e
theorem Gd.row {f : Nat → Int} (x : Gd K d H H') (h : Dr H d n) (r : IsRow K H p f) : IsRow K H' p f := by
  obtain ⟨t, c, e, z, dx, e1, r1, h1, h2, h3⟩ := r
  exact ⟨t, c, e, z, dx, e1, r1, x.at h h1, x.tup h h2, x.tup h h3⟩
theorem Dr.fresh (h : Dr H d n) (e : H p = none) : p ≠ d := fun z => by
  obtain ⟨_, _, _, e2, _⟩ := h
  rw [z, e2] at e; cases e
end
section
variable {K : PySem.W.Frag} {g : TG} {te : TE} {vs : List Nat} {σ : L2.St} {H1 : Hp} {D d : Addr} {Qd : Hp → Prop}
/-- [a drawn number for k in range(..)]: each draws c times -/
theorem lc_drawn {lo : Int} {n m c : Nat} (R : Nat → Int → Prop) (hD : H1 D = none) (hn : n ≤ 16777216) (dr : Dr H1 d m)
    (hs : ∀ (i : Nat) (H : Hp) (Q : VK), i < n → Gd K d H1 H → Dr H d (m + c * i) → (∀ (x : Int) (H4 : Hp), R i x → Gd K d H H4 → Dr H4 d (m + c * (i + 1)) → Q (.int x) H4) → g (.int (lo + i)) (wipe σ vs) H fun σ2 H2 => wipe σ2 vs = wipe σ vs ∧ te σ2 H2 Q)
    (hd : ∀ (H : Hp) (xs : List Int), Gd K d H1 H → Dr H d (m + c * n) → H D = some (.lst (xs.map V.int)) → xs.length = n → (∀ i x, xs[i]? = some x → R i x) → Qd H) :
    ∃ W : Nat → Nat → Hp → Prop, (∃ m, W 0 m (upd H1 D (.lst []))) ∧ ∀ i m H, W i m H →
      ((Itr lo n).stop i H ∧ Qd H) ∨ ((Itr lo n).go i H ∧ ∃ Nx : Hp → Prop, (∀ H', Nx H' → ∃ m', m' < m ∧ W (i + 1) m' H') ∧ ∀ x H', (Itr lo n).yld i H x H' → g x (wipe σ vs) H' fun σ2 H2 => wipe σ2 vs = wipe σ vs ∧ tYes σ2 H2 fun b H3 =>
        if b = true then te σ2 H3 fun y H4 => ∃ acc, H4 D = some (.lst acc) ∧ acc.length < sizeLine ∧ Nx (upd H4 D (.lst (acc ++ [y]))) else Nx H3) := by
  have nDd : D ≠ d := dr.fresh hD
  have dr0 : Dr (upd H1 D (.lst [])) d m := by
    obtain ⟨x, y, z, e, r⟩ := dr
    exact ⟨x, y, z, by rw [upd_ne nDd.symm]; exact e, r⟩
  refine lc_any (n := n) (fun i H => i ≤ n ∧ Gd K d H1 H ∧ Dr H d (m + c * i) ∧ ∃ xs : List Int, H D = some (.lst (xs.map V.int)) ∧ xs.length = i ∧ ∀ j x, xs[j]? = some x → R j x)
    ⟨Nat.zero_le _, Gd.of (Ge.new hD), by simpa using dr0, [], upd_same, rfl, fun j x h => by simp at h⟩ (fun i H hi hP => hi) (fun H hP => Nat.le_refl _) (fun i x H H' hi hP hyl => ?_) (fun H hP => ?_)
  · obtain ⟨rfl, rfl⟩ := hyl
    obtain ⟨_, gd, dd, xs, hx, hl, hR⟩ := hP
    refine hs i H' _ hi gd dd fun y H4 hy g4 d4 => ?_
    have h4 := g4.lst nDd hx
    refine ⟨_, h4, by rw [List.length_map, hl]; exact sizedL (by omega), hi, (gd.trans g4).putNew hD h4 (by intro _ z; cases z) (by intro _ z; cases z), ?_, xs ++ [y], by rw [upd_same, List.map_append]; rfl, by simp [hl], fun j x h => ?_⟩
    · obtain ⟨x, y, z, e, r⟩ := d4
      exact ⟨x, y, z, by rw [upd_ne nDd.symm]; exact e, r⟩
    · by_cases z : j < xs.length
      · rw [List.getElem?_append_left z] at h
        exact hR j x h
      · have : j = xs.length := by
          have := (List.getElem?_eq_some_iff.mp h).1
          simp at this; omega
        subst this
        simp at h
        subst h
        rw [hl]; exact hy
  · obtain ⟨_, gd, dd, xs, hx, hl, hR⟩ := hP
    exact hd H xs gd dd hx hl hR
end
end K17
set_option Elab.async false
set_option linter.all false
set_option maxRecDepth 100000
set_option pp.maxSteps 900
set_option maxHeartbeats 4000000
namespace K17
open PySem PySem.Spec PyProof.Rows L2 LamX NdefX
section
variable {P : Program} {w : World} {K : PySem.W.Frag} {mg : Str → Option Value} {base : Heap}
theorem sc_law_draw : FnScope ["_law_draws", "_law_many", "_law_found", "_law_seed"] ["_law_draws", "_law_many"] (defScope (topS 75)) := ⟨rfl, rfl, rfl, by decide +kernel, rfl, by decide +kernel, by decide +kernel⟩
def spDraw (K : PySem.W.Frag) : Sp := fun vs H Q _ => ∃ (d : Addr) (many n : Nat), vs = [.ref d, .int many] ∧ Dr H d n ∧ n ≤ 1000000 ∧ 0 < many ∧ many < 1000000 ∧ ∀ (r : Nat) H', r < many → Gd K d H H' → Dr H' d (n + 1) → Q (.int r) H'
theorem ok_law_draw (X : Txt K mg) : Ok P w K mg base CX0 1 "_law_draw" ["_law_draws", "_law_many"] (spDraw K) := by
  refine ok_def0 X 57 rfl sc_law_draw (by decide +kernel) (fun vs H Q E h => ?_) (fun _ _ _ _ _ _ us hl => match us, hl with | [_, _], _ => rfl) (fun f cdv A outer s H vs Q E hr h => ?_)
  · obtain ⟨d, many, n, rfl, _⟩ := h; rfl
  · obtain ⟨d, many, n, rfl, ⟨a, b, c, hd, a0, b0, b1, c0, c1⟩, hn, m0, m1, fin⟩ := h
    refine ⟨_, (pss_cons (ps_if (pt_cmpR op_gt (pe_ix (ixL_K (K := K)) (pv 0) pe_int (fun _ _ => rfl)) pe_int (nomark _))
  (pss_cons (ps_set (i := 2) sc_law_draw.nd rfl (.inl rfl) (pe_op op_mod (pe_callTy call_int1 (by rfl) X.b_int (by decide +kernel) (pa_cons (pe_ix (ixL_K (K := K)) (pv 0) pe_int (fun _ _ => rfl)) pa_nil)) (pv 1)))
  (pss_cons (ps_asg (pe_op op_fdiv (pe_ix (ixL_K (K := K)) (pv 0) pe_int (fun _ _ => rfl)) (pv 1)) (pg_sub (pv 0) pe_int set_list))
  (pss_one (ps_ret (pv 2)))))
  pss_nil)
  (pss_cons (ps_asg (pe_op op_add (pe_ix (ixL_K (K := K)) (pv 0) pe_int (fun _ _ => rfl)) pe_int) (pg_sub (pv 0) pe_int set_list))
  (pss_cons (ps_set (i := 3) sc_law_draw.nd rfl (.inl rfl) (pe_op op_mod (pe_op op_pow (pe_callTy call_int1 (by rfl) X.b_int (by decide +kernel) (pa_cons (pe_op op_add (pe_ix (ixL_K (K := K)) (pv 0) pe_int (fun _ _ => rfl)) (pe_op op_mul pe_int (pe_ix (ixL_K (K := K)) (pv 0) pe_int (fun _ _ => rfl)))) pa_nil)) pe_int) pe_int))
  (pss_one (ps_ret (pe_op op_mod (pe_op op_fdiv (pe_op op_mod (pe_callTy call_int1 (by rfl) X.b_int (by decide +kernel) (pa_cons (pe_op op_mul (pe_op op_add (pv 3) (pe_ix (ixL_K (K := K)) (pv 0) pe_int (fun _ _ => rfl))) pe_int) pa_nil)) pe_int) pe_int) (pv 1))))))), ?_⟩
    have at0 : atI [V.int a, .int b, .int c] 0 = some (.int a) := rfl
    refine ⟨_, rfl, d, _, _, _, rfl, rfl, .of hd, rfl, ?_⟩
    refine ⟨_, _, rfl, rfl, _, rfl, iteD (fun e => ?_) (fun e => ?_)⟩
    · refine ⟨_, rfl, d, _, _, _, rfl, rfl, .of hd, rfl, .inl ⟨_, rfl, ?_⟩⟩
      refine ⟨_, rfl, _, _, rfl, rfl, by omega, ?_⟩
      refine ⟨_, rfl, d, _, _, _, rfl, rfl, .of hd, rfl, _, rfl, _, _, rfl, rfl, ⟨by omega, by omega⟩, ?_⟩
      refine ⟨_, rfl, d, _, _, 0, rfl, rfl, hd, rfl, ?_⟩
      have r0 : 0 ≤ a % (many : Int) := Int.emod_nonneg _ (by omega)
      have r1 := Int.emod_lt_of_pos a (show (0 : Int) < many by omega)
      obtain ⟨r, er⟩ := Int.eq_ofNat_of_zero_le r0
      refine ⟨_, rfl, ?_⟩
      show Q (V.int (a % (many : Int))) _
      rw [er]
      exact fin r _ (by omega) (Gd.put hd) ⟨a / many, b, c, upd_same, Int.ediv_nonneg (by omega) (by omega), b0, b1, c0, by omega⟩
    · refine ⟨_, rfl, d, _, _, _, rfl, rfl, .of hd, rfl, _, _, rfl, rfl, ?_⟩
      refine ⟨_, rfl, d, _, _, 2, rfl, rfl, hd, rfl, ?_⟩
      have h1 : upd H d (.lst ([V.int a, .int b, .int c].set 2 (.int (c + 1)))) d = some (.lst [.int a, .int b, .int (c + 1)]) := upd_same
      have g1 : Gd K d H (upd H d (.lst ([V.int a, .int b, .int c].set 2 (.int (c + 1))))) := Gd.put hd
      generalize upd H d (.lst ([V.int a, .int b, .int c].set 2 (.int (c + 1)))) = H1 at h1 g1 ⊢
      refine ⟨_, rfl, d, _, _, _, rfl, rfl, .of h1, rfl, _, rfl, d, _, _, _, rfl, rfl, .of h1, rfl, _, _, rfl, rfl, .inl ⟨by omega, by omega⟩, _, _, rfl, rfl, .inl ⟨_, rfl, ?_⟩⟩
      refine ⟨_, _, rfl, rfl, ⟨by omega, by omega, by omega⟩, _, _, rfl, rfl, by omega, ?_⟩
      obtain ⟨sd, esd⟩ : ∃ sd : Int, sd = (b + 7919 * (c + 1)) ^ (5 : Int).toNat % 2147483647 := ⟨_, rfl⟩
      have s0 : 0 ≤ sd := by rw [esd]; exact Int.emod_nonneg _ (by omega)
      have s1 : sd < 2147483647 := by rw [esd]; exact Int.emod_lt_of_pos _ (by omega)
      rw [show (fun i j : Int => V.int (i % j)) ((b + 7919 * (c + 1)) ^ Int.toNat 5) 2147483647 = V.int sd by rw [esd]]
      refine ⟨_, rfl, _, rfl, d, _, _, _, rfl, rfl, .of h1, rfl, _, _, rfl, rfl, _, _, rfl, rfl, .inr ⟨by omega, by omega⟩, .inl ⟨_, rfl, ?_⟩⟩
      refine ⟨_, _, rfl, rfl, by omega, _, _, rfl, rfl, ⟨by omega, by omega⟩, _, rfl, _, _, rfl, rfl, by omega, ?_⟩
      have r0 : 0 ≤ (sd + (c + 1)) * 40692 % 2147483629 / 16 % (many : Int) := Int.emod_nonneg _ (by omega)
      have r1 := Int.emod_lt_of_pos ((sd + (c + 1)) * 40692 % 2147483629 / 16) (show (0 : Int) < many by omega)
      obtain ⟨r, er⟩ := Int.eq_ofNat_of_zero_le r0
      show Q (V.int ((sd + (c + 1)) * 40692 % 2147483629 / 16 % (many : Int))) _
      rw [er]
      exact fin r _ (by omega) g1 ⟨a, b, c + 1, h1, a0, b0, b1, by omega, by omega⟩
theorem sc_law_pick : FnScope ["_law_draws", "_law_some"] ["_law_draws", "_law_some"] (defScope (topS 76)) := ⟨rfl, rfl, rfl, by decide +kernel, rfl, by decide +kernel, by decide +kernel⟩
def spPick (K : PySem.W.Frag) : Sp := fun vs H Q _ => ∃ (d l : Addr) (xs : List V) (n : Nat), vs = [.ref d, .ref l] ∧ Dr H d n ∧ n ≤ 1000000 ∧ H l = some (.lst xs) ∧ l ≠ d ∧ 0 < xs.length ∧ xs.length < 1000 ∧ ∀ v H', v ∈ xs → Gd K d H H' → Dr H' d (n + 1) → Q v H'
theorem ok_law_pick (X : Txt K mg) : Ok P w K mg base CX0 2 "_law_pick" ["_law_draws", "_law_some"] (spPick K) := by
  refine ok_def0 X 58 rfl sc_law_pick (by decide +kernel) (fun vs H Q E h => ?_) (fun _ _ _ _ _ _ us hl => match us, hl with | [_, _], _ => rfl) (fun f cdv A outer s H vs Q E hr h => ?_)
  · obtain ⟨d, l, xs, n, rfl, _⟩ := h; rfl
  · obtain ⟨d, l, xs, n, rfl, dr, hn, hl, ne, x0, x1, fin⟩ := h
    refine ⟨_, (pss_one (ps_ret (pe_ix (ixL_K (K := K)) (pv 1) (pe_o (ok_law_draw X) hr pass0 (pa_cons (pv 0) (pa_cons (pe_callB (len_K (K := K)) (by rfl) X.b_len (by decide +kernel) (pa_cons (pv 1) pa_nil)) pa_nil))) (fun _ _ => rfl)))), ?_⟩
    refine ⟨_, rfl, _, rfl, _, rfl, l, _, rfl, .inl (.of hl), ?_⟩
    refine ⟨d, xs.length, n, rfl, dr, hn, x0, by omega, fun r H1 hr1 g1 d1 => ?_⟩
    have er : xs[r]? = some xs[r] := List.getElem?_eq_getElem hr1
    exact ⟨l, _, _, _, rfl, rfl, .of (g1.lst ne hl), atI_nat er, fin _ _ (List.getElem_mem hr1) g1 d1⟩
end
end K17
set_option Elab.async false
set_option linter.all false
set_option maxRecDepth 100000
set_option pp.maxSteps 900
set_option maxHeartbeats 4000000
namespace K17
open PySem PySem.Spec PyProof.Rows L2 LamX NdefX
section
variable {P : Program} {w : World} {K : PySem.W.Frag} {mg : Str → Option Value} {base : Heap}
theorem slLs {H : Hp} {a : Addr} {xs ys : List V} {lo hi : Option Int} {Q : VK} (h : SqL K H a xs) (e : cutV xs lo hi = ys) (q : ∀ p, H p = none → Q (.ref p) (upd H p (.lst ys))) : RSlL1 K (.ref a) lo hi H Q :=
  ⟨a, xs, rfl, h, fun p hp => by rw [e]; exact q p hp⟩
theorem sc_law_source : FnScope ["_law_script", "_law_place", "_law_cell", "_law_seed", "_law_other"] ["_law_script", "_law_place"] (defScope (topS 74)) := ⟨rfl, rfl, rfl, by decide +kernel, rfl, by decide +kernel, by decide +kernel⟩
def spSource (K : PySem.W.Frag) : Sp := fun vs H Q _ => ∃ (l : Addr) (ns : List Int) (place : Nat), vs = [.ref l, .int place] ∧ SqL K H l (ns.map V.int) ∧ ns.length ≤ 63 ∧ place ≤ 100 ∧ ∀ H' d, Gr K H H' → H d = none → Dr H' d 0 → Q (.ref d) H'
theorem ok_law_source (X : Txt K mg) : Ok P w K mg base CX0 1 "_law_source" ["_law_script", "_law_place"] (spSource K) := by
  refine ok_def0 X 56 rfl sc_law_source (by decide +kernel) (fun vs H Q E h => ?_) (fun _ _ _ _ _ _ us hl => match us, hl with | [_, _], _ => rfl) (fun f cdv A outer s H vs Q E hr h => ?_)
  · obtain ⟨l, ns, place, rfl, _⟩ := h; rfl
  · obtain ⟨l, ns, place, rfl, hl, hn, hp, fin⟩ := h
    have rest : ∃ t, PSs (cxOf CX0 P w K mg base ["_law_script", "_law_place", "_law_cell", "_law_seed", "_law_other"] "_law_source" (defScope (topS 74)) f cdv A outer s H E).nox ((defBody (topS 74)).drop 1) t ∧
        ∀ (H' : Hp) (cell : Int), Gr K H H' → (∀ b, H' b = none → H b = none) → t { nx := fun _ H' => Q .non H', rt := Q } [some (.ref l), some (.int place), some (.int cell), none, none] H' := by
      refine ⟨_, (pss_cons (ps_set (i := 3) sc_law_source.nd rfl (.inl rfl) (pe_op op_add (pe_op op_mul pe_int (pv 1)) pe_int))
  (pss_cons (ps_for PassesOwn.never rfl (piL_K (K := K) (pv 0)) (pg_name (i := 4) sc_law_source.nd rfl (.inl rfl))
  (pss_one (ps_set (i := 3) sc_law_source.nd rfl (.inl rfl) (pe_op op_mod (pe_callTy call_int1 (by rfl) X.b_int (by decide +kernel) (pa_cons (pe_op op_add (pe_op op_mul (pv 3) pe_int) (pv 4)) pa_nil)) pe_int))))
  (pss_one (ps_ret (pe_lst (pa_cons (pe_ifExp (pt_cmpR op_ge (pv 2) (pe_op op_pow pe_int pe_int) (nomark _)) (pv 2) pe_int) (pa_cons (pe_op op_mod (pe_callTy call_int1 (by rfl) X.b_int (by decide +kernel) (pa_cons (pe_op op_add (pv 3) (pe_op op_mul pe_int (pv 2))) pa_nil)) pe_int) (pa_cons pe_int pa_nil)))))))), ?_⟩
      intro H' cell gr fr
      have hl' := gr.sqL hl
      refine ⟨_, rfl, _, _, rfl, rfl, .inl ⟨by omega, by omega⟩, _, _, rfl, rfl, ?_⟩
      refine ⟨_, rfl, l, rfl, ⟨_, hl'⟩, ?_⟩
      refine L2.for_list (K := K) (xs := ns.map V.int) (fun i σ H2 => H2 = H' ∧ ∃ (sd : Int) (j : Option V), σ = [some (.ref l), some (.int place), some (.int cell), some (.int sd), j]) ⟨rfl, _, none, rfl⟩ (fun i σ H2 _ h => by rw [h.1]; exact hl') (fun i x σ H2 hx h => ?_) (fun σ H2 h => ?_)
      · obtain ⟨rfl, sd, j, rfl⟩ := h
        obtain ⟨y, rfl⟩ : ∃ y : Int, x = .int y := by
          rw [List.getElem?_map] at hx
          cases e : ns[i]? with
          | none => rw [e] at hx; cases hx
          | some a => rw [e] at hx; cases hx; exact ⟨a, rfl⟩
        refine ⟨_, rfl, _, _, rfl, rfl, .inr ⟨by omega, by omega⟩, _, rfl, _, _, rfl, rfl, .inl ⟨_, rfl, _, _, rfl, rfl, by omega, ?_⟩⟩
        exact ⟨rfl, _, _, rfl⟩
      · obtain ⟨rfl, sd, j, rfl⟩ := h
        have fin3 : ∀ a : Int, 0 ≤ a → ∀ p, H2 p = none → Q (.ref p) (upd H2 p (.lst [.int a, .int ((sd + 48271 * cell) % 2147483629), .int 0])) := fun a ha p hp =>
          fin _ p (gr.trans (Ge.new hp)) (fr p hp) ⟨a, _, 0, upd_same, ha, Int.emod_nonneg _ (by omega), Int.emod_lt_of_pos _ (by omega), Int.le_refl _, Int.le_refl _⟩
        refine ⟨_, rfl, _, _, rfl, rfl, ⟨by omega, by omega, by omega⟩, _, _, rfl, rfl, _, rfl, iteD (fun e => ?_) (fun e => ?_)⟩
        · have e : (10 : Int) ^ (18 : Int).toNat ≤ cell := e
          have e0 : (0 : Int) ≤ (10 : Int) ^ (18 : Int).toNat := by decide
          refine ⟨_, rfl, _, rfl, _, rfl, _, _, rfl, rfl, .inl ⟨by omega, by omega⟩, _, _, rfl, rfl, .inl ⟨_, rfl, _, _, rfl, rfl, by omega, ?_⟩⟩
          exact ⟨by show 3 ≤ sizeLine; decide, fin3 cell (by omega)⟩
        · refine ⟨_, rfl, _, rfl, _, _, rfl, rfl, .inl ⟨by omega, by omega⟩, _, _, rfl, rfl, .inl ⟨_, rfl, _, _, rfl, rfl, by omega, ?_⟩⟩
          exact ⟨by show 3 ≤ sizeLine; decide, fin3 0 (by omega)⟩
    obtain ⟨tr, htr, hrest⟩ := rest
    refine ⟨_, (pss_cons (ps_set (i := 2) sc_law_source.nd rfl (.inl rfl) (pe_ifExp (pt_cmpR op_lt (pv 1) (pe_callB (len_K (K := K)) (by rfl) X.b_len (by decide +kernel) (pa_cons (pv 0) pa_nil)) (nomark _)) (pe_ix (ixL_K (K := K)) (pv 0) (pv 1) (fun _ _ => rfl)) (pe_op op_add (pe_op op_add (pe_op op_mod (pe_callTy call_int1 (by rfl) X.b_int (by decide +kernel) (pa_cons (pe_callB (sum_K (K := K)) (by rfl) X.b_sum (by decide +kernel) (pa_cons (pe_slice (slL_K (K := K)) (pv 0) po_none (po_some pe_int)) pa_nil)) pa_nil)) pe_int) (pe_op op_mul pe_int (pv 1))) pe_int)))
  htr), ?_⟩
    refine ⟨_, rfl, _, rfl, l, _, rfl, .inl hl, ?_⟩
    rw [List.length_map]
    refine ⟨_, _, rfl, rfl, _, rfl, iteD (fun e => ?_) (fun e => ?_)⟩
    · have e : (place : Int) < (ns.length : Int) := e
      refine ⟨_, rfl, _, rfl, l, _, _, _, rfl, rfl, hl, atID (i := place) (by omega), ?_⟩
      exact hrest H _ (Ge.refl _) (fun _ h => h)
    · refine ⟨_, rfl, _, rfl, slLs (ys := (ns.take 1).map V.int) hl ?_ fun l5 n5 => ?_⟩
      · cases ns with
        | nil => rfl
        | cons a r => exact (cut_take (k := 1) (by simp)).trans (List.map_take ..).symm
      · refine ⟨l5, ns.take 1, rfl, .of upd_same, .inl ⟨_, rfl, _, _, rfl, rfl, by omega, ?_⟩⟩
        refine ⟨_, rfl, _, _, rfl, rfl, .inl ⟨by omega, by omega⟩, _, _, rfl, rfl, _, _, rfl, rfl, ?_⟩
        exact hrest _ _ (Ge.new n5) fun b h => up_none h
/-- an own row of the law: a tuple of head, cycle, gain -/
def OwnR (H : Hp) (v : V) (hs cs : List Int) (g : Int) : Prop := ∃ tp a b, v = .ref tp ∧ H tp = some (.tup [.ref a, .ref b, .int g]) ∧ H a = some (.lst (hs.map V.int)) ∧ H b = some (.lst (cs.map V.int)) ∧ 0 < cs.length ∧ cs.length ≤ 10000 ∧ hs.length ≤ 10000
abbrev tri (hs cs : List Int) (g : Int) : Nat → Int := RW.ev ⟨hs, cs, g⟩
theorem OwnR.gr {H H' : Hp} {v : V} {hs cs : List Int} {g : Int} (x : Gr K H H') (h : OwnR H v hs cs g) : OwnR H' v hs cs g := by
  obtain ⟨tp, a, b, e, h1, h2, h3, r⟩ := h
  exact ⟨tp, a, b, e, x.tup h1, x.lst h2, x.lst h3, r⟩
theorem sc_law_at : FnScope ["_law_row", "_law_place", "_law_head", "_law_cycle", "_law_gain"] ["_law_row", "_law_place"] (defScope (topS 79)) := ⟨rfl, rfl, rfl, by decide +kernel, rfl, by decide +kernel, by decide +kernel⟩
def spLawAt : Sp := fun vs H Q _ => ∃ (v : V) (hs cs : List Int) (g : Int) (n : Nat), vs = [v, .int n] ∧ OwnR H v hs cs g ∧ n < 2 ^ 60 ∧ Q (.int (tri hs cs g n)) H
theorem ok_law_at (X : Txt K mg) : Ok P w K mg base CX0 1 "_law_at" ["_law_row", "_law_place"] spLawAt := by
  refine ok_def0 X 61 rfl sc_law_at (by decide +kernel) (fun vs H Q E h => ?_) (fun _ _ _ _ _ _ us hl => match us, hl with | [_, _], _ => rfl) (fun f cdv A outer s H vs Q E hr h => ?_)
  · obtain ⟨v, hs, cs, g, n, rfl, _⟩ := h; rfl
  · obtain ⟨v, hs, cs, g, n, rfl, ⟨tp, a, b, rfl, h1, h2, h3, c0, cz, hz⟩, hn, q⟩ := h
    refine ⟨_, (pss_cons (ps_asg (pv 0) (tup_K (K := K) (pgs_cons (pg_name (i := 2) sc_law_at.nd rfl (.inl rfl)) (pgs_cons (pg_name (i := 3) sc_law_at.nd rfl (.inl rfl)) (pgs_cons (pg_name (i := 4) sc_law_at.nd rfl (.inl rfl)) pgs_nil)))))
  (pss_cons (ps_if (pt_cmpR op_lt (pv 1) (pe_callB (len_K (K := K)) (by rfl) X.b_len (by decide +kernel) (pa_cons (pv 2) pa_nil)) (nomark _))
  (pss_one (ps_ret (pe_ix (ixL_K (K := K)) (pv 2) (pv 1) (fun _ _ => rfl))))
  pss_nil)
  (pss_one (ps_ret (pe_op op_add (pe_ix (ixL_K (K := K)) (pv 3) (pe_op op_mod (pe_op op_sub (pv 1) (pe_callB (len_K (K := K)) (by rfl) X.b_len (by decide +kernel) (pa_cons (pv 2) pa_nil))) (pe_callB (len_K (K := K)) (by rfl) X.b_len (by decide +kernel) (pa_cons (pv 3) pa_nil))) (fun _ _ => rfl)) (pe_op op_mul (pv 4) (pe_op op_fdiv (pe_op op_sub (pv 1) (pe_callB (len_K (K := K)) (by rfl) X.b_len (by decide +kernel) (pa_cons (pv 2) pa_nil))) (pe_callB (len_K (K := K)) (by rfl) X.b_len (by decide +kernel) (pa_cons (pv 3) pa_nil))))))))), ?_⟩
    refine ⟨_, rfl, tp, _, rfl, .of h1, rfl, _, _, rfl, _, _, rfl, _, _, rfl, rfl, ?_⟩
    refine ⟨_, rfl, _, rfl, a, _, rfl, .inl (.of h2), ?_⟩
    rw [List.length_map]
    refine ⟨_, _, rfl, rfl, _, rfl, iteD (fun e => ?_) (fun e => ?_)⟩
    · have e : (n : Int) < (hs.length : Int) := e
      refine ⟨_, rfl, _, rfl, a, _, _, _, rfl, rfl, .of h2, atID (i := n) (by omega), ?_⟩
      have := RW.ev_low (t := ⟨hs, cs, g⟩) (n := n) (by show n < hs.length; omega)
      have : tri hs cs g n = hs.getD n 0 := this
      rw [← this]
      exact q
    · have e : ¬ (n : Int) < (hs.length : Int) := e
      obtain ⟨m, em⟩ : ∃ m, m = n - hs.length := ⟨_, rfl⟩
      refine ⟨_, rfl, _, rfl, _, rfl, a, _, rfl, .inl (.of h2), ?_⟩
      rw [List.length_map]
      refine ⟨_, _, rfl, rfl, ?_⟩
      rw [show (fun i j : Int => V.int (i - j)) (n : Int) (hs.length : Int) = V.int (m : Int) by show V.int _ = _; congr 1; omega]
      refine ⟨_, rfl, b, _, rfl, .inl (.of h3), ?_⟩
      rw [List.length_map]
      refine ⟨_, _, rfl, rfl, by omega, b, _, _, _, rfl, rfl, .of h3, atID' (j := m % cs.length) (by rfl) (Nat.mod_lt _ c0), ?_⟩
      refine ⟨_, rfl, _, rfl, _, rfl, a, _, rfl, .inl (.of h2), ?_⟩
      rw [List.length_map]
      refine ⟨_, _, rfl, rfl, ?_⟩
      rw [show (fun i j : Int => V.int (i - j)) (n : Int) (hs.length : Int) = V.int (m : Int) by show V.int _ = _; congr 1; omega]
      refine ⟨_, rfl, b, _, rfl, .inl (.of h3), ?_⟩
      rw [List.length_map]
      refine ⟨_, _, rfl, rfl, ⟨by omega, by omega⟩, _, _, rfl, rfl, .inr ⟨?_, ?_⟩, _, _, rfl, rfl, ?_⟩
      · show -(2 ^ 64) < (m : Int) / (cs.length : Int)
        have : 0 ≤ (m : Int) / (cs.length : Int) := Int.ediv_nonneg (by omega) (by omega)
        omega
      · show (m : Int) / (cs.length : Int) < 2 ^ 64
        have := Int.ediv_le_self (b := (cs.length : Int)) (a := (m : Int)) (by omega)
        omega
      · have ev : tri hs cs g n = cs.getD (m % cs.length) 0 + g * ((m / cs.length : Nat) : Int) := by
          rw [em]
          show (if n < hs.length then hs.getD n 0 else RW.evc cs g (n - hs.length)) = _
          rw [if_neg (by omega)]; rfl
        rw [ev] at q
        exact q
end
end K17
set_option Elab.async false
set_option linter.all false
set_option maxRecDepth 100000
set_option pp.maxSteps 900
set_option maxHeartbeats 4000000
namespace K17
open PySem PySem.Spec PyProof.Rows L2 LamX NdefX
section
variable {P : Program} {w : World} {K : PySem.W.Frag} {mg : Str → Option Value} {base : Heap}
theorem sc_law_upto : FnScope ["_law_row", "_law_many", "_law_place"] ["_law_row", "_law_many"] (defScope (topS 80)) := ⟨rfl, rfl, rfl, by decide +kernel, rfl, by decide +kernel, by decide +kernel⟩
def spLawUpto (K : PySem.W.Frag) : Sp := fun vs H Q _ => ∃ (v : V) (hs cs : List Int) (g : Int) (n : Nat), vs = [v, .int n] ∧ OwnR H v hs cs g ∧ n ≤ 16777216 ∧ ∀ H' l, Gr K H H' → H l = none → H' l = some (.lst (((List.range n).map (tri hs cs g)).map V.int)) → Q (.ref l) H'
theorem ok_law_upto (X : Txt K mg) : Ok P w K mg base CX0 2 "_law_upto" ["_law_row", "_law_many"] (spLawUpto K) := by
  refine ok_def0 X 62 rfl sc_law_upto (by decide +kernel) (fun vs H Q E h => ?_) (fun _ _ _ _ _ _ us hl => match us, hl with | [_, _], _ => rfl) (fun f cdv A outer s H vs Q E hr h => ?_)
  · obtain ⟨v, hs, cs, g, n, rfl, _⟩ := h; rfl
  · obtain ⟨v, hs, cs, g, n, rfl, ow, hn, q⟩ := h
    refine ⟨_, (pss_one (ps_ret (pe_lc (own := [("_law_place", 2)]) (g := (gName 2)) (tt := tYes) rfl sc_law_upto.nd (pi_range1 (by rfl) X.b_range (pa_cons (pv 1) pa_nil)) (blkOk_by (N := ["_law_row", "_law_many", "_law_place"]) (sc := defScope (topS 80)) (by decide +kernel)) (fun _ _ _ _ _ => (pg_name (i := 2) sc_law_upto.nd rfl (.inl rfl))) (fun _ _ _ _ _ => pts_nil) (fun _ _ _ _ _ => (pe_o (ok_law_at X) hr pass0 (pa_cons (pv 0) (pa_cons (pv 2) pa_nil))))))), ?_⟩
    refine ⟨_, rfl, n, rfl, by omega, by omega, fun D hD => ?_⟩
    rw [Int.toNat_natCast]
    refine lc_rng (K := K) (F := fun i => V.int (tri hs cs g i)) hD hn (fun i H4 Q4 hi g4 q4 => ?_) (fun H4 g4 h4 => ?_)
    · refine ⟨rfl, _, rfl, _, rfl, v, hs, cs, g, i, ?_, ow.gr g4, by omega, q4 _ (Ge.refl _)⟩
      show [v, V.int (0 + (i : Int))] = _
      rw [Int.zero_add]
    · exact q H4 D g4 hD (by rw [h4, List.map_map]; rfl)
theorem sc_law_divisor : FnScope ["_law_one", "_law_other"] ["_law_one", "_law_other"] (defScope (topS 81)) := ⟨rfl, rfl, rfl, by decide +kernel, rfl, by decide +kernel, by decide +kernel⟩
def spDivisor : Sp := fun vs H Q _ => ∃ a b : Nat, vs = [.int a, .int b] ∧ Q (.int (Nat.gcd a b : Nat)) H
theorem ok_law_divisor (X : Txt K mg) : Ok P w K mg base CX0 1 "_law_divisor" ["_law_one", "_law_other"] spDivisor := by
  refine ok_def0 X 63 rfl sc_law_divisor (by decide +kernel) (fun vs H Q E h => ?_) (fun _ _ _ _ _ _ us hl => match us, hl with | [_, _], _ => rfl) (fun f cdv A outer s H vs Q E hr h => ?_)
  · obtain ⟨a, b, rfl, _⟩ := h; rfl
  · obtain ⟨a, b, rfl, q⟩ := h
    refine ⟨_, (pss_cons (ps_while PassesOwn.never (pt_cmpR op_gt (pv 1) pe_int (nomark _))
  (pss_one (ps_par (i := 0) (j := 1) (by rfl) sc_law_divisor.nd rfl rfl (by decide) rfl rfl (pa_cons (pv 1) (pa_cons (pe_op op_mod (pv 0) (pv 1)) pa_nil)) (by rfl))))
  (pss_one (ps_ret (pv 0)))), ?_⟩
    refine ⟨fun m σ H2 => H2 = H ∧ ∃ x y : Nat, σ = [some (.int x), some (.int y)] ∧ Nat.gcd x y = Nat.gcd a b ∧ m = y, ⟨_, rfl, a, b, rfl, rfl, rfl⟩, fun m σ H2 hW => ?_⟩
    obtain ⟨rfl, x, y, rfl, hg, rfl⟩ := hW
    refine ⟨_, rfl, _, _, rfl, rfl, _, rfl, iteD (fun e => ?_) (fun e => ?_)⟩
    · have e : (0 : Int) < m := e
      have ey : 0 < m := by omega
      refine ⟨_, fun σ' H2 z => ⟨x % m, Nat.mod_lt _ ey, z⟩, ?_⟩
      refine ⟨_, rfl, _, rfl, _, rfl, _, _, rfl, rfl, e, _, _, rfl, rfl, m, x % m, rfl, ?_, rfl⟩
      rw [← hg, Nat.gcd_comm x m, Nat.gcd_rec m x, Nat.gcd_comm]
    · have e : ¬ (0 : Int) < m := e
      refine ⟨_, rfl, ?_⟩
      have : m = 0 := by omega
      subst this
      rw [Nat.gcd_zero_right] at hg
      rw [hg]; exact q
theorem sc_law_multiple : FnScope ["_law_one", "_law_other"] ["_law_one", "_law_other"] (defScope (topS 82)) := ⟨rfl, rfl, rfl, by decide +kernel, rfl, by decide +kernel, by decide +kernel⟩
def spLawMult : Sp := fun vs H Q _ => ∃ a b : Nat, vs = [.int a, .int b] ∧ 0 < a ∧ 0 < b ∧ a < 2 ^ 20 ∧ b < 2 ^ 20 ∧ Q (.int (Nat.lcm a b : Nat)) H
theorem ok_law_multiple (X : Txt K mg) : Ok P w K mg base CX0 2 "_law_multiple" ["_law_one", "_law_other"] spLawMult := by
  refine ok_def0 X 64 rfl sc_law_multiple (by decide +kernel) (fun vs H Q E h => ?_) (fun _ _ _ _ _ _ us hl => match us, hl with | [_, _], _ => rfl) (fun f cdv A outer s H vs Q E hr h => ?_)
  · obtain ⟨a, b, rfl, _⟩ := h; rfl
  · obtain ⟨a, b, rfl, a0, b0, ha, hb, q⟩ := h
    refine ⟨_, (pss_one (ps_ret (pe_op op_fdiv (pe_op op_mul (pv 0) (pv 1)) (pe_o (ok_law_divisor X) hr pass0 (pa_cons (pv 0) (pa_cons (pv 1) pa_nil)))))), ?_⟩
    have g0 : 0 < Nat.gcd a b := Nat.gcd_pos_of_pos_left _ a0
    have g1 : Nat.gcd a b ≤ a := Nat.gcd_le_left _ a0
    refine ⟨_, rfl, _, rfl, _, _, rfl, rfl, .inl ⟨by omega, by omega⟩, _, rfl, _, rfl, a, b, rfl, _, _, rfl, rfl, ⟨by omega, by omega⟩, ?_⟩
    exact q
/-- .. whose lists are not the draws -/
def OwnD (d : Addr) (H : Hp) (v : V) (hs cs : List Int) (g : Int) : Prop := ∃ tp a b, v = .ref tp ∧ H tp = some (.tup [.ref a, .ref b, .int g]) ∧ H a = some (.lst (hs.map V.int)) ∧ H b = some (.lst (cs.map V.int)) ∧ 0 < cs.length ∧ cs.length ≤ 10000 ∧ hs.length ≤ 10000 ∧ a ≠ d ∧ b ≠ d
theorem OwnD.own {d : Addr} {H : Hp} {v : V} {hs cs : List Int} {g : Int} (h : OwnD d H v hs cs g) : OwnR H v hs cs g := by
  obtain ⟨tp, a, b, e, h1, h2, h3, h4, h5, h6, _⟩ := h
  exact ⟨tp, a, b, e, h1, h2, h3, h4, h5, h6⟩
theorem OwnD.gd {d : Addr} {n : Nat} {H H' : Hp} {v : V} {hs cs : List Int} {g : Int} (h : OwnD d H v hs cs g) (x : Gd K d H H') (dr : Dr H d n) : OwnD d H' v hs cs g := by
  obtain ⟨tp, a, b, e, h1, h2, h3, h4, h5, h6, h7, h8⟩ := h
  exact ⟨tp, a, b, e, x.tup dr h1, x.lst h7 h2, x.lst h8 h3, h4, h5, h6, h7, h8⟩
theorem OwnD.gr {d : Addr} {H H' : Hp} {v : V} {hs cs : List Int} {g : Int} (h : OwnD d H v hs cs g) (x : Gr K H H') : OwnD d H' v hs cs g := by
  obtain ⟨tp, a, b, e, h1, h2, h3, r⟩ := h
  exact ⟨tp, a, b, e, x.tup h1, x.lst h2, x.lst h3, r⟩
/-- .. whose lists are no lists of before -/
def OwnF (H H' : Hp) (v : V) (hs cs : List Int) (g : Int) : Prop := ∃ tp a b, v = .ref tp ∧ H' tp = some (.tup [.ref a, .ref b, .int g]) ∧ H' a = some (.lst (hs.map V.int)) ∧ H' b = some (.lst (cs.map V.int)) ∧ 0 < cs.length ∧ cs.length ≤ 10000 ∧ hs.length ≤ 10000 ∧ ∀ D xs, H D = some (.lst xs) → a ≠ D ∧ b ≠ D
theorem OwnF.ne {D : Addr} {xs : List V} {H H' : Hp} {v : V} {hs cs : List Int} {g : Int} (h : OwnF H H' v hs cs g) (e : H D = some (.lst xs)) : OwnD D H' v hs cs g := by
  obtain ⟨tp, a, b, e1, h1, h2, h3, h4, h5, h6, k⟩ := h
  exact ⟨tp, a, b, e1, h1, h2, h3, h4, h5, h6, (k D xs e).1, (k D xs e).2⟩
theorem OwnF.dr {d : Addr} {n : Nat} {H H' : Hp} {v : V} {hs cs : List Int} {g : Int} (h : OwnF H H' v hs cs g) (dr : Dr H d n) : OwnD d H' v hs cs g := by
  obtain ⟨_, _, _, e, _⟩ := dr
  exact h.ne e
theorem Gd.fresh {K : PySem.W.Frag} {d p D : Addr} {n : Nat} {H H' : Hp} {xs : List V} (x : Gd K d H H') (dr : Dr H' d n) (hp : H' p = none) (e : H D = some (.lst xs)) : p ≠ D := by
  by_cases z : D = d
  · rw [z]; exact dr.fresh hp
  · intro q
    rw [q, x.lst z e] at hp
    cases hp
/-- an own row as it is drawn -/
structure Drawn (hs cs : List Int) (g : Int) : Prop where
  h4 : hs.length ≤ 4
  c4 : cs.length ≤ 4
  h12 : ∀ x ∈ hs, -12 ≤ x ∧ x ≤ 12
  c12 : ∀ x ∈ cs, -12 ≤ x ∧ x ≤ 12
  g12 : -12 ≤ g ∧ g ≤ 12
theorem sc_law_drawn : FnScope ["_law_draws", "_law_most", "_law_size", "_law_low", "_law_head", "_law_cycle", "_law_k"] ["_law_draws", "_law_most"] (defScope (topS 83)) := ⟨rfl, rfl, rfl, by decide +kernel, rfl, by decide +kernel, by decide +kernel⟩
def spDrawn (K : PySem.W.Frag) : Sp := fun vs H Q _ => ∃ (d : Addr) (n : Nat), vs = [.ref d, .int 4] ∧ Dr H d n ∧ n ≤ 100000 ∧ ∀ H' v hs cs g, Gd K d H H' → Dr H' d (n + 20) → OwnF H H' v hs cs g → Drawn hs cs g → Q v H'
theorem ok_law_drawn (X : Txt K mg) : Ok P w K mg base CX0 2 "_law_drawn" ["_law_draws", "_law_most"] (spDrawn K) := by
  refine ok_def0 X 65 rfl sc_law_drawn (by decide +kernel) (fun vs H Q E h => ?_) (fun _ _ _ _ _ _ us hl => match us, hl with | [_, _], _ => rfl) (fun f cdv A outer s H vs Q E hr h => ?_)
  · obtain ⟨d, n, rfl, _⟩ := h; rfl
  · obtain ⟨d, n, rfl, dr, hn, fin⟩ := h
    refine ⟨_, (pss_cons (ps_set (i := 2) sc_law_drawn.nd rfl (.inr rfl) (pe_ix (ixL_K (K := K)) (pe_lst (pa_cons pe_int (pa_cons pe_int (pa_cons pe_int (pa_cons pe_int pa_nil))))) (pe_o (ok_law_draw X) hr pass0 (pa_cons (pv 0) (pa_cons pe_int pa_nil))) (fun _ _ => rfl)))
  (pss_cons (ps_set (i := 3) sc_law_drawn.nd rfl (.inr rfl) (pe_ix (ixL_K (K := K)) (pe_lst (pa_cons (pe_op op_sub pe_int (pv 2)) (pa_cons (pe_op op_sub pe_int (pv 2)) (pa_cons pe_int pa_nil)))) (pe_o (ok_law_draw X) hr pass0 (pa_cons (pv 0) (pa_cons pe_int pa_nil))) (fun _ _ => rfl)))
  (pss_cons (ps_setLc (i := 4) (own := [("_law_k", 6)]) (g := (gName 6)) (tt := tYes) rfl sc_law_drawn.nd rfl rfl (sw_true rfl rfl rfl (by decide +kernel)) (pi_range1 (by rfl) X.b_range (pa_cons (pe_o (ok_law_draw X) hr pass0 (pa_cons (pv 0) (pa_cons (pe_op op_add (pv 1) pe_int) pa_nil))) pa_nil)) (blkOk_by (N := ["_law_draws", "_law_most", "_law_size", "_law_low", "_law_head", "_law_cycle", "_law_k"]) (sc := defScope (topS 83)) (by decide +kernel)) (fun _ _ _ _ _ => (pg_name (i := 6) sc_law_drawn.nd rfl (.inl rfl))) (fun _ _ _ _ _ => pts_nil) (fun _ _ _ _ _ => (pe_op op_add (pv 3) (pe_o (ok_law_draw X) hr pass0 (pa_cons (pv 0) (pa_cons (pe_op op_add (pe_op op_sub (pv 2) (pv 3)) pe_int) pa_nil))))))
  (pss_cons (ps_setLc (i := 5) (own := [("_law_k", 6)]) (g := (gName 6)) (tt := tYes) rfl sc_law_drawn.nd rfl rfl (sw_true rfl rfl rfl (by decide +kernel)) (pi_range1 (by rfl) X.b_range (pa_cons (pe_op op_add pe_int (pe_o (ok_law_draw X) hr pass0 (pa_cons (pv 0) (pa_cons (pv 1) pa_nil)))) pa_nil)) (blkOk_by (N := ["_law_draws", "_law_most", "_law_size", "_law_low", "_law_head", "_law_cycle", "_law_k"]) (sc := defScope (topS 83)) (by decide +kernel)) (fun _ _ _ _ _ => (pg_name (i := 6) sc_law_drawn.nd rfl (.inl rfl))) (fun _ _ _ _ _ => pts_nil) (fun _ _ _ _ _ => (pe_op op_add (pv 3) (pe_o (ok_law_draw X) hr pass0 (pa_cons (pv 0) (pa_cons (pe_op op_add (pe_op op_sub (pv 2) (pv 3)) pe_int) pa_nil))))))
  (pss_one (ps_ret (pe_tup (pa_cons (pv 4) (pa_cons (pv 5) (pa_cons (pe_op op_add (pe_ix (ixL_K (K := K)) (pe_lst (pa_cons (pv 3) (pa_cons pe_int pa_nil))) (pe_o (ok_law_draw X) hr pass0 (pa_cons (pv 0) (pa_cons pe_int pa_nil))) (fun _ _ => rfl)) (pe_o (ok_law_draw X) hr pass0 (pa_cons (pv 0) (pa_cons (pe_op op_add (pv 2) pe_int) pa_nil)))) pa_nil)))))))))), ?_⟩
    -- size
    refine ⟨by show 4 ≤ sizeLine; decide, fun l1 n1 => ?_⟩
    have g1 : Gr K H (upd H l1 (.lst [.int 2, .int 5, .int 12, .int 12])) := Ge.new n1
    have h1 : upd H l1 (.lst [.int 2, .int 5, .int 12, .int 12]) l1 = some (.lst [.int 2, .int 5, .int 12, .int 12]) := upd_same
    have ne1 := dr.fresh n1
    generalize upd H l1 (.lst [.int 2, .int 5, .int 12, .int 12]) = H1 at g1 h1 ⊢
    refine ⟨_, rfl, d, 4, n, rfl, dr.gr g1, by omega, by omega, by omega, fun r2 H2 hr2 g2 d2 => ?_⟩
    have G2 : Gd K d H H2 := (Gd.of g1).trans g2
    obtain ⟨sz, esz, hsz⟩ : ∃ sz : Int, [V.int 2, .int 5, .int 12, .int 12][r2]? = some (.int sz) ∧ (sz = 2 ∨ sz = 5 ∨ sz = 12) := by
      match r2, hr2 with
      | 0, _ => exact ⟨2, rfl, by omega⟩
      | 1, _ => exact ⟨5, rfl, by omega⟩
      | 2, _ => exact ⟨12, rfl, by omega⟩
      | 3, _ => exact ⟨12, rfl, by omega⟩
    refine ⟨l1, _, _, _, rfl, rfl, .of (g2.lst ne1 h1), atI_nat esz, ?_⟩
    -- low
    refine ⟨_, rfl, _, _, rfl, rfl, _, rfl, _, _, rfl, rfl, by show 3 ≤ sizeLine; decide, fun l3 n3 => ?_⟩
    have g3 : Gr K H2 (upd H2 l3 (.lst [.int (0 - sz), .int (0 - sz), .int 0])) := Ge.new n3
    have h3 : upd H2 l3 (.lst [.int (0 - sz), .int (0 - sz), .int 0]) l3 = some (.lst [.int (0 - sz), .int (0 - sz), .int 0]) := upd_same
    have ne3 := d2.fresh n3
    generalize upd H2 l3 (.lst [.int (0 - sz), .int (0 - sz), .int 0]) = H3 at g3 h3 ⊢
    refine ⟨_, rfl, d, 3, n + 1, rfl, d2.gr g3, by omega, by omega, by omega, fun r4 H4 hr4 g4 d4 => ?_⟩
    have G4 : Gd K d H H4 := (G2.gr g3).trans g4
    obtain ⟨lw, elw, hlw⟩ : ∃ lw : Int, [V.int (0 - sz), .int (0 - sz), .int 0][r4]? = some (.int lw) ∧ (lw = - sz ∨ lw = 0) := by
      match r4, hr4 with
      | 0, _ => exact ⟨0 - sz, rfl, by omega⟩
      | 1, _ => exact ⟨0 - sz, rfl, by omega⟩
      | 2, _ => exact ⟨0, rfl, by omega⟩
    refine ⟨l3, _, _, _, rfl, rfl, .of (g4.lst ne3 h3), atI_nat elw, ?_⟩
    -- head
    obtain ⟨span, esp⟩ : ∃ span : Nat, (span : Int) = sz - lw + 1 := ⟨(sz - lw + 1).toNat, by omega⟩
    refine ⟨_, rfl, _, rfl, _, _, rfl, rfl, d, 5, n + 2, rfl, d4, by omega, by omega, by omega, fun k5 H5 hk5 g5 d5 => ?_⟩
    have G5 := G4.trans g5
    refine ⟨(k5 : Int), rfl, by omega, by omega, fun D6 hD6 => ?_⟩
    rw [Int.toNat_natCast]
    refine lc_drawn (K := K) (c := 1) (fun _ x => -12 ≤ x ∧ x ≤ 12) hD6 (by omega) d5 (fun i H6 Q6 hi g6 d6 q6 => ?_) (fun H6 hs g6 d6 h6 l6 R6 => ?_)
    · refine ⟨rfl, _, rfl, _, rfl, _, rfl, _, rfl, _, _, rfl, rfl, _, _, rfl, rfl, d, span, n + 2 + 1 + 1 * i, ?_, d6, by omega, by omega, by omega, fun r7 H7 hr7 g7 d7 => ?_⟩
      · show [V.ref d, V.int (sz - lw + 1)] = _
        rw [← esp]
      · exact ⟨_, _, rfl, rfl, q6 _ _ ⟨by omega, by omega⟩ g7 (d7.mono (by omega))⟩
    have G6 := G5.trans g6
    have ne6 := d5.fresh hD6
    -- cycle
    refine ⟨_, rfl, _, rfl, d, 4, _, rfl, d6, by omega, by omega, by omega, fun k7 H7 hk7 g7 d7 => ?_⟩
    have G7 := G6.trans g7
    refine ⟨_, _, rfl, rfl, ((1 + k7 : Nat) : Int), rfl, by omega, by omega, fun D8 hD8 => ?_⟩
    rw [Int.toNat_natCast]
    refine lc_drawn (K := K) (c := 1) (fun _ x => -12 ≤ x ∧ x ≤ 12) hD8 (by omega) d7 (fun i H8 Q8 hi g8 d8 q8 => ?_) (fun H8 cs g8 d8 h8 l8 R8 => ?_)
    · refine ⟨rfl, _, rfl, _, rfl, _, rfl, _, rfl, _, _, rfl, rfl, _, _, rfl, rfl, d, span, _, ?_, d8, by omega, by omega, by omega, fun r9 H9 hr9 g9 d9 => ?_⟩
      · show [V.ref d, V.int (sz - lw + 1)] = _
        rw [← esp]
      · exact ⟨_, _, rfl, rfl, q8 _ _ ⟨by omega, by omega⟩ g9 (d9.mono (by omega))⟩
    have ne8 := d7.fresh hD8
    have G8 := G7.trans g8
    have h6' := g8.lst ne6 (g7.lst ne6 h6)
    -- gain
    refine ⟨_, rfl, _, rfl, _, rfl, by show 2 ≤ sizeLine; decide, fun l9 n9 => ?_⟩
    have g9 : Gr K H8 (upd H8 l9 (.lst [.int lw, .int 0])) := Ge.new n9
    have h9 : upd H8 l9 (.lst [.int lw, .int 0]) l9 = some (.lst [.int lw, .int 0]) := upd_same
    have ne9 := d8.fresh n9
    generalize upd H8 l9 (.lst [.int lw, .int 0]) = H9 at g9 h9 ⊢
    refine ⟨_, rfl, d, 2, _, rfl, d8.gr g9, by omega, by omega, by omega, fun r10 H10 hr10 g10 d10 => ?_⟩
    obtain ⟨gl, egl, hgl⟩ : ∃ gl : Int, [V.int lw, .int 0][r10]? = some (.int gl) ∧ (gl = lw ∨ gl = 0) := by
      match r10, hr10 with
      | 0, _ => exact ⟨lw, rfl, by omega⟩
      | 1, _ => exact ⟨0, rfl, by omega⟩
    refine ⟨l9, _, _, _, rfl, rfl, .of (g10.lst ne9 h9), atI_nat egl, ?_⟩
    obtain ⟨s1, es1⟩ : ∃ s1 : Nat, (s1 : Int) = sz + 1 := ⟨(sz + 1).toNat, by omega⟩
    refine ⟨_, rfl, _, rfl, _, _, rfl, rfl, d, s1, _, ?_, d10, by omega, by omega, by omega, fun r11 H11 hr11 g11 d11 => ?_⟩
    · show [V.ref d, V.int (sz + 1)] = _
      rw [← es1]
    refine ⟨_, _, rfl, rfl, by show 3 ≤ sizeLine; decide, fun tp ntp => ?_⟩
    have G11 := ((G8.gr g9).trans g10).trans g11
    refine fin _ _ hs cs (gl + r11) (G11.gr (Ge.new ntp)) ((d11.gr (Ge.new (T := tbs K) ntp)).mono (by omega)) ⟨tp, D6, D8, rfl, upd_same, ?_, ?_, by omega, by omega, by omega, fun D xs e => ⟨G5.fresh d5 hD6 e, G7.fresh d7 hD8 e⟩⟩ ⟨by omega, by omega, fun x hx => ?_, fun x hx => ?_, by omega⟩
    · exact (Ge.new (T := tbs K) ntp).lst (g11.lst ne6 (g10.lst ne6 (g9.lst h6')))
    · exact (Ge.new (T := tbs K) ntp).lst (g11.lst ne8 (g10.lst ne8 (g9.lst h8)))
    · obtain ⟨i, hi, rfl⟩ := List.getElem_of_mem hx
      exact R6 i _ (List.getElem?_eq_getElem hi)
    · obtain ⟨i, hi, rfl⟩ := List.getElem_of_mem hx
      exact R8 i _ (List.getElem?_eq_getElem hi)
end
end K17
set_option linter.all false
/-! Rows' mathematics, M: own rows of the law. -/
namespace RW
theorem getD_left {l r : List Int} {n : Nat} (h : n < l.length) : (l ++ r).getD n 0 = l.getD n 0 := by
  rw [List.getD_eq_getElem?_getD, List.getD_eq_getElem?_getD, List.getElem?_append_left h]
theorem getD_right {l r : List Int} {n : Nat} (h : l.length ≤ n) : (l ++ r).getD n 0 = r.getD (n - l.length) 0 := by
  rw [List.getD_eq_getElem?_getD, List.getD_eq_getElem?_getD, List.getElem?_append_right h]
/-- a head and a cycle that never fall, the cycle gaining enough -/
theorem mono_ev {hs cs : List Int} {g : Int} (hc : 0 < cs.length) (hv : ∀ i, i + 1 < (hs ++ cs).length → (hs ++ cs).getD i 0 ≤ (hs ++ cs).getD (i + 1) 0)
    (hg : cs.getD (cs.length - 1) 0 ≤ cs.getD 0 0 + g) : Mono (ev ⟨hs, cs, g⟩) := by
  have low : ∀ n, n < hs.length + cs.length → ev ⟨hs, cs, g⟩ n = (hs ++ cs).getD n 0 := fun n hn => by
    by_cases z : n < hs.length
    · rw [ev_low (t := ⟨hs, cs, g⟩) z, getD_left z]
    · show (if n < hs.length then _ else evc cs g (n - hs.length)) = _
      rw [if_neg z, getD_right (by omega)]
      unfold evc
      rw [Nat.mod_eq_of_lt (by omega), Nat.div_eq_of_lt (by omega)]
      simp
  have gn : Gains (ev ⟨hs, cs, g⟩) cs.length g hs.length := ev_gains (t := ⟨hs, cs, g⟩) hc
  intro n
  induction n using Nat.strongRecOn with
  | _ n ih =>
    by_cases z : n + 1 < hs.length + cs.length
    · rw [low n (by omega), low (n + 1) z]
      exact hv n (by simpa using z)
    · by_cases z2 : n + 1 = hs.length + cs.length
      · rw [low n (by omega), z2, gn hs.length (Nat.le_refl _), low hs.length (by omega)]
        rw [getD_right (by omega), getD_right (Nat.le_refl _), Nat.sub_self, show n - hs.length = cs.length - 1 by omega]
        exact hg
      · have i := ih (n - cs.length) (by omega)
        have a := gn (n - cs.length) (by omega)
        have b := gn (n - cs.length + 1) (by omega)
        rw [show n - cs.length + cs.length = n by omega] at a
        rw [show n - cs.length + 1 + cs.length = n + 1 by omega] at b
        omega
end RW
namespace RW
theorem ev_double {hs cs : List Int} {g : Int} (hc : 0 < cs.length) (n : Nat) : ev ⟨hs, cs ++ cs.map (· + g), 2 * g⟩ n = ev ⟨hs, cs, g⟩ n := by
  have gn : Gains (ev ⟨hs, cs, g⟩) cs.length g hs.length := ev_gains (t := ⟨hs, cs, g⟩) hc
  have g2 := gn.mul' 2
  rw [Nat.mul_comm] at g2
  have at_ : ∀ i, i < cs.length → ev ⟨hs, cs, g⟩ (hs.length + i) = cs.getD i 0 := fun i hi => by
    show (if hs.length + i < hs.length then _ else evc cs g (hs.length + i - hs.length)) = _
    rw [if_neg (by omega), show hs.length + i - hs.length = i by omega]
    unfold evc
    rw [Nat.mod_eq_of_lt hi, Nat.div_eq_of_lt hi]
    simp
  refine ev_of (p := 2 * cs.length) (N := hs.length) (G := 2 * g) (by omega) (by exact g2) rfl (by simp; omega) (fun i hi => (ev_low (t := ⟨hs, cs, g⟩) hi).symm) (fun i hi => ?_) n
  by_cases z : i < cs.length
  · rw [getD_left z, at_ i z]
  · rw [getD_right (by omega)]
    have a := gn (hs.length + (i - cs.length)) (by omega)
    rw [at_ _ (by omega), show hs.length + (i - cs.length) + cs.length = hs.length + i by omega] at a
    rw [a, getD_lt (by simp; omega), List.getElem_map, getD_lt (by omega)]
theorem ev_turn {hs cs : List Int} {g : Int} (hc : 0 < cs.length) (n : Nat) : ev ⟨hs ++ cs.take 1, cs.drop 1 ++ [cs.getD 0 0 + g], g⟩ n = ev ⟨hs, cs, g⟩ n := by
  have gn : Gains (ev ⟨hs, cs, g⟩) cs.length g hs.length := ev_gains (t := ⟨hs, cs, g⟩) hc
  have at_ : ∀ i, i < cs.length → ev ⟨hs, cs, g⟩ (hs.length + i) = cs.getD i 0 := fun i hi => by
    show (if hs.length + i < hs.length then _ else evc cs g (hs.length + i - hs.length)) = _
    rw [if_neg (by omega), show hs.length + i - hs.length = i by omega]
    unfold evc
    rw [Nat.mod_eq_of_lt hi, Nat.div_eq_of_lt hi]
    simp
  refine ev_of (p := cs.length) (N := hs.length + 1) (G := g) hc (fun m hm => gn m (by omega)) (by simp; omega) (by simp; omega) (fun i hi => ?_) (fun i hi => ?_) n
  · by_cases z : i < hs.length
    · rw [getD_left z]; exact (ev_low (t := ⟨hs, cs, g⟩) z).symm
    · rw [getD_right (by omega), show i - hs.length = 0 by omega, show i = hs.length + 0 by omega, at_ 0 hc]
      cases cs with
      | nil => simp at hc
      | cons a r => rfl
  · rw [show hs.length + 1 + i = hs.length + (i + 1) by omega]
    by_cases z : i < cs.length - 1
    · rw [getD_left (by simp; omega), at_ _ (by omega), getD_lt (by simp; omega), List.getElem_drop, getD_lt (by omega)]
      congr 1; omega
    · rw [getD_right (by simp; omega), show i = cs.length - 1 by omega, show hs.length + (cs.length - 1 + 1) = hs.length + cs.length by omega, gn hs.length (Nat.le_refl _)]
      have := at_ 0 hc
      rw [Nat.add_zero] at this
      rw [this]
      simp
end RW
set_option Elab.async false
set_option linter.all false
set_option maxRecDepth 100000
set_option pp.maxSteps 900
set_option maxHeartbeats 4000000
namespace K17
open PySem PySem.Spec PyProof.Rows L2 LamX NdefX
section
variable {P : Program} {w : World} {K : PySem.W.Frag} {mg : Str → Option Value} {base : Heap}
/-- an own row that never falls -/
structure Risen (hs cs : List Int) (g first : Int) : Prop where
  h3 : hs.length ≤ 3
  c3 : cs.length ≤ 3
  h12 : ∀ x ∈ hs, 0 ≤ x ∧ x ≤ 12
  c12 : ∀ x ∈ cs, 0 ≤ x ∧ x ≤ 12
  g12 : 0 ≤ g ∧ g ≤ 12
  c0 : 0 < cs.length
  asc : ∀ i, i + 1 < (hs ++ cs).length → (hs ++ cs).getD i 0 ≤ (hs ++ cs).getD (i + 1) 0
  wrap : cs.getD (cs.length - 1) 0 ≤ cs.getD 0 0 + g
  at0 : tri hs cs g 0 = first
theorem Risen.mono {hs cs : List Int} {g first : Int} (r : Risen hs cs g first) : Mono (tri hs cs g) := RW.mono_ev r.c0 r.asc r.wrap
theorem sc_law_rising : FnScope ["_law_draws", "_law_most", "_law_first", "_law_many", "_law_size", "_law_values", "_law_k", "_law_least"] ["_law_draws", "_law_most", "_law_first"] (defScope (topS 84)) := ⟨rfl, rfl, rfl, by decide +kernel, rfl, by decide +kernel, by decide +kernel⟩
def spRisen (K : PySem.W.Frag) : Sp := fun vs H Q _ => ∃ (d : Addr) (n : Nat) (first : Int), vs = [.ref d, .int 3, .int first] ∧ Dr H d n ∧ n ≤ 100000 ∧ 0 ≤ first ∧ first ≤ 2 ∧ ∀ H' v hs cs g, Gd K d H H' → Dr H' d (n + 20) → OwnF H H' v hs cs g → Risen hs cs g first → Q v H'
theorem ok_law_rising (X : Txt K mg) : Ok P w K mg base CX0 3 "_law_rising" ["_law_draws", "_law_most", "_law_first"] (spRisen K) := by
  refine ok_def0 X 66 rfl sc_law_rising (by decide +kernel) (fun vs H Q E h => ?_) (fun _ _ _ _ _ _ us hl => match us, hl with | [_, _, _], _ => rfl) (fun f cdv A outer s H vs Q E hr h => ?_)
  · obtain ⟨d, n, first, rfl, _⟩ := h; rfl
  · obtain ⟨d, n, first, rfl, dr, hn, f0, f2, fin⟩ := h
    refine ⟨_, (pss_cons (ps_par (i := 3) (j := 4) (by rfl) sc_law_rising.nd rfl rfl (by decide) rfl rfl (pa_cons (pe_o (ok_law_draw X) hr pass0 (pa_cons (pv 0) (pa_cons (pe_op op_add (pv 1) pe_int) pa_nil))) (pa_cons (pe_op op_add pe_int (pe_o (ok_law_draw X) hr pass0 (pa_cons (pv 0) (pa_cons (pv 1) pa_nil)))) pa_nil)) (by rfl))
  (pss_cons (ps_set (i := 5) sc_law_rising.nd rfl (.inl rfl) (pe_lst (pa_cons (pv 2) pa_nil)))
  (pss_cons (ps_for PassesOwn.never rfl (pi_range1 (by rfl) X.b_range (pa_cons (pe_op op_sub (pe_op op_add (pv 3) (pv 4)) pe_int) pa_nil)) (pg_name (i := 6) sc_law_rising.nd rfl (.inl rfl))
  (pss_one (ps_expr (bm_K (K := K) PySem.F.plainAttrs_list PySem.F.slot_list_append PySem.F.type_list_append mt_append (pv 5) (pa_cons (pe_callB (call_min2 rfl) (by rfl) X.b_min (by decide +kernel) (pa_cons pe_int (pa_cons (pe_op op_add (pe_ix (ixL_K (K := K)) (pv 5) (pe_un un_neg pe_int) (fun _ _ => rfl)) (pe_o (ok_law_pick X) hr pass0 (pa_cons (pv 0) (pa_cons (pe_lst (pa_cons pe_int (pa_cons pe_int (pa_cons pe_int (pa_cons pe_int (pa_cons pe_int (pa_cons pe_int (pa_cons pe_int pa_nil)))))))) pa_nil)))) pa_nil))) pa_nil)))))
  (pss_cons (ps_set (i := 7) sc_law_rising.nd rfl (.inl rfl) (pe_op op_sub (pe_ix (ixL_K (K := K)) (pv 5) (pe_un un_neg pe_int) (fun _ _ => rfl)) (pe_ix (ixL_K (K := K)) (pv 5) (pv 3) (fun _ _ => rfl))))
  (pss_one (ps_ret (pe_tup (pa_cons (pe_slice (slL_K (K := K)) (pv 5) po_none (po_some (pv 3))) (pa_cons (pe_slice (slL_K (K := K)) (pv 5) (po_some (pv 3)) po_none) (pa_cons (pe_callB (call_min2 rfl) (by rfl) X.b_min (by decide +kernel) (pa_cons pe_int (pa_cons (pe_op op_add (pv 7) (pe_o (ok_law_pick X) hr pass0 (pa_cons (pv 0) (pa_cons (pe_lst (pa_cons pe_int (pa_cons pe_int (pa_cons pe_int (pa_cons pe_int (pa_cons pe_int (pa_cons pe_int pa_nil))))))) pa_nil)))) pa_nil))) pa_nil)))))))))), ?_⟩
    refine ⟨_, rfl, _, rfl, _, _, rfl, rfl, d, 4, n, rfl, dr, by omega, by omega, by omega, fun many H1 hmany g1 d1 => ?_⟩
    refine ⟨_, rfl, _, rfl, d, 3, n + 1, rfl, d1, by omega, by omega, by omega, fun r2 H2 hr2 g2 d2 => ?_⟩
    have G2 := g1.trans g2
    refine ⟨_, _, rfl, rfl, _, _, rfl, ?_⟩
    refine ⟨_, rfl, by show 1 ≤ sizeLine; decide, fun lv nlv => ?_⟩
    have g3 : Gr K H2 (upd H2 lv (.lst [.int first])) := Ge.new nlv
    have h3 : upd H2 lv (.lst [.int first]) lv = some (.lst (([first] : List Int).map V.int)) := upd_same
    have nev := d2.fresh nlv
    have d3 := d2.gr g3
    have g3' : Gd K d H2 (upd H2 lv (.lst [.int first])) := Gd.of g3
    generalize upd H2 lv (.lst [.int first]) = H3 at g3' h3 d3 ⊢
    refine ⟨_, rfl, _, rfl, _, _, rfl, rfl, _, _, rfl, rfl, ((many + r2 : Nat) : Int), ?_, by omega, by omega, ?_⟩
    · show [V.int ((many : Int) + (1 + (r2 : Int)) - 1)] = _
      congr 2; omega
    rw [Int.toNat_natCast]
    refine for_any (n := many + r2) (fun i σ H4 => Gd K d H2 H4 ∧ Dr H4 d (n + 2 + i) ∧ (∃ j6, σ = [some (.ref d), some (.int 3), some (.int first), some (.int many), some (.int (1 + (r2 : Int))), some (.ref lv), j6, none]) ∧
      ∃ vals : List Int, H4 lv = some (.lst (vals.map V.int)) ∧ vals.length = i + 1 ∧ vals.getD 0 0 = first ∧ (∀ x ∈ vals, 0 ≤ x ∧ x ≤ 12) ∧ ∀ j, j + 1 < vals.length → vals.getD j 0 ≤ vals.getD (j + 1) 0)
      ⟨g3', d3, ⟨none, rfl⟩, [first], h3, rfl, rfl, by simp; omega, fun j hj => by simp at hj⟩ (fun i σ H2 hi h => hi) (fun σ H2 h => Nat.le_refl _) (fun i x σ H4 H5 hi h hy => ?_) (fun σ H4 h => ?_)
    · obtain ⟨g4, d4, ⟨j6, rfl⟩, vals, h4, vl, v0, vb, vm⟩ := h
      obtain ⟨rfl, rfl⟩ := hy
      refine ⟨_, rfl, .inl ⟨rfl, _, .of h4⟩, _, rfl, _, rfl, lv, _, _, _, rfl, rfl, .of h4, atLast (by omega), ?_⟩
      refine ⟨_, rfl, by show 7 ≤ sizeLine; decide, fun l6 n6 => ?_⟩
      have g6 : Gr K H5 (upd H5 l6 (.lst [.int 0, .int 0, .int 1, .int 1, .int 2, .int 3, .int 5])) := Ge.new n6
      have h6 : upd H5 l6 (.lst [.int 0, .int 0, .int 1, .int 1, .int 2, .int 3, .int 5]) l6 = some (.lst [.int 0, .int 0, .int 1, .int 1, .int 2, .int 3, .int 5]) := upd_same
      have ne6 := d4.fresh n6
      have h4' := g6.lst h4
      have d6 := d4.gr g6
      have G6 := g4.gr g6
      generalize upd H5 l6 (.lst [.int 0, .int 0, .int 1, .int 1, .int 2, .int 3, .int 5]) = H6 at g6 h6 h4' d6 G6 ⊢
      refine ⟨d, l6, _, _, rfl, d6, by omega, h6, ne6, by simp, by simp, fun v H7 hv g7 d7 => ?_⟩
      obtain ⟨y, rfl, hy⟩ : ∃ y : Int, v = .int y ∧ 0 ≤ y ∧ y ≤ 5 := by
        simp at hv
        rcases hv with rfl | rfl | rfl | rfl | rfl
        · exact ⟨0, rfl, by omega⟩
        · exact ⟨1, rfl, by omega⟩
        · exact ⟨2, rfl, by omega⟩
        · exact ⟨3, rfl, by omega⟩
        · exact ⟨5, rfl, by omega⟩
      have h7 := g7.lst nev h4'
      obtain ⟨z, ez⟩ : ∃ z : Int, z = if vals.getD (vals.length - 1) 0 + y < 12 then vals.getD (vals.length - 1) 0 + y else 12 := ⟨_, rfl⟩
      have lastb := vb (vals.getD (vals.length - 1) 0) (by rw [RW.getD_lt (by omega)]; exact List.getElem_mem _)
      refine ⟨_, _, rfl, rfl, _, _, rfl, lv, _, _, rfl, rfl, h7, by rw [List.length_map]; exact sizedL (by omega), ?_⟩
      rw [show (if vals.getD (vals.length - 1) 0 + y < 12 then vals.getD (vals.length - 1) 0 + y else 12) = z from ez.symm]
      have zb : vals.getD (vals.length - 1) 0 ≤ z ∧ z ≤ 12 := by rw [ez]; split <;> omega
      refine ⟨(G6.trans g7).putNew nlv h7 (by intro _ z; cases z) (by intro _ z; cases z), ?_, ⟨_, rfl⟩, vals ++ [z], by rw [upd_same, List.map_append]; rfl, by simp [vl], ?_, fun x hx => ?_, fun j hj => ?_⟩
      · obtain ⟨a, b, c, e, r⟩ := d7
        exact ⟨a, b, c, by rw [upd_ne nev.symm]; exact e, by omega, by omega, by omega, by omega, by omega⟩
      · rw [RW.getD_left (by omega)]; exact v0
      · rcases List.mem_append.mp hx with q | q
        · exact vb x q
        · rw [List.mem_singleton.mp q]; omega
      · have hj : j + 1 < vals.length + 1 := by simpa using hj
        by_cases q : j + 1 < vals.length
        · rw [RW.getD_left (by omega), RW.getD_left q]; exact vm j q
        · rw [RW.getD_left (by omega), RW.getD_right (by omega), show j + 1 - vals.length = 0 by omega, show j = vals.length - 1 by omega]
          exact zb.1
    · obtain ⟨g4, d4, ⟨j6, rfl⟩, vals, h4, vl, v0, vb, vm⟩ := h
      have hcat : vals.take many ++ vals.drop many = vals := List.take_append_drop _ _
      refine ⟨_, rfl, _, rfl, lv, _, _, _, rfl, rfl, .of h4, atLast (by omega), _, rfl, _, rfl, lv, _, _, _, rfl, rfl, .of h4, atID (i := many) (by omega), _, _, rfl, rfl, ?_⟩
      obtain ⟨least, el⟩ : ∃ least : Int, least = vals.getD (vals.length - 1) 0 - vals.getD many 0 := ⟨_, rfl⟩
      have lastb := vb (vals.getD (vals.length - 1) 0) (by rw [RW.getD_lt (by omega)]; exact List.getElem_mem _)
      have manyb := vb (vals.getD many 0) (by rw [RW.getD_lt (by omega)]; exact List.getElem_mem _)
      have up : ∀ k, many + k < vals.length → vals.getD many 0 ≤ vals.getD (many + k) 0 := fun k => by
        induction k with
        | zero => intro _; exact Int.le_refl _
        | succ k ih => intro hk; exact Int.le_trans (ih (by omega)) (vm (many + k) (by omega))
      have l0 := up (vals.length - 1 - many) (by omega)
      rw [show many + (vals.length - 1 - many) = vals.length - 1 by omega] at l0
      refine ⟨_, rfl, _, rfl, _, rfl, slL (ys := (vals.take many).map V.int) h4 (by rw [cut_take (by simp; omega), List.map_take]) fun l5 n5 => ?_⟩
      have g5 : Gr K H4 (upd H4 l5 (.lst ((vals.take many).map V.int))) := Ge.new n5
      have h5 : upd H4 l5 (.lst ((vals.take many).map V.int)) l5 = some (.lst ((vals.take many).map V.int)) := upd_same
      have ne5 := d4.fresh n5
      have d5 := d4.gr g5
      have h45 := g5.lst h4
      generalize upd H4 l5 (.lst ((vals.take many).map V.int)) = H5 at g5 h5 d5 h45 ⊢
      refine ⟨_, rfl, _, rfl, _, rfl, slL (ys := (vals.drop many).map V.int) h45 (by rw [cut_drop (by simp; omega), List.map_drop]) fun l6 n6 => ?_⟩
      have g6 : Gr K H5 (upd H5 l6 (.lst ((vals.drop many).map V.int))) := Ge.new n6
      have h6 : upd H5 l6 (.lst ((vals.drop many).map V.int)) l6 = some (.lst ((vals.drop many).map V.int)) := upd_same
      have ne6 := d5.fresh n6
      have d6 := d5.gr g6
      have h56 := g6.lst h5
      generalize upd H5 l6 (.lst ((vals.drop many).map V.int)) = H6 at g6 h6 d6 h56 ⊢
      refine ⟨_, rfl, _, rfl, by show 6 ≤ sizeLine; decide, fun l7 n7 => ?_⟩
      have g7 : Gr K H6 (upd H6 l7 (.lst [.int 0, .int 0, .int 1, .int 1, .int 2, .int 4])) := Ge.new n7
      have h7 : upd H6 l7 (.lst [.int 0, .int 0, .int 1, .int 1, .int 2, .int 4]) l7 = some (.lst [.int 0, .int 0, .int 1, .int 1, .int 2, .int 4]) := upd_same
      have ne7 := d6.fresh n7
      have d7 := d6.gr g7
      have h57 := g7.lst h56
      have h67 := g7.lst h6
      generalize upd H6 l7 (.lst [.int 0, .int 0, .int 1, .int 1, .int 2, .int 4]) = H7 at g7 h7 d7 h57 h67 ⊢
      refine ⟨d, l7, _, _, rfl, d7, by omega, h7, ne7, by simp, by simp, fun v H8 hv g8 d8 => ?_⟩
      obtain ⟨y, rfl, hy⟩ : ∃ y : Int, v = .int y ∧ 0 ≤ y ∧ y ≤ 4 := by
        simp at hv
        rcases hv with rfl | rfl | rfl | rfl
        · exact ⟨0, rfl, by omega⟩
        · exact ⟨1, rfl, by omega⟩
        · exact ⟨2, rfl, by omega⟩
        · exact ⟨4, rfl, by omega⟩
      obtain ⟨gn, egn⟩ : ∃ gn : Int, gn = if vals.getD (vals.length - 1) 0 - vals.getD many 0 + y < 12 then vals.getD (vals.length - 1) 0 - vals.getD many 0 + y else 12 := ⟨_, rfl⟩
      refine ⟨_, _, rfl, rfl, _, _, rfl, by show 3 ≤ sizeLine; decide, fun tp ntp => ?_⟩
      rw [show (if vals.getD (vals.length - 1) 0 - vals.getD many 0 + y < 12 then vals.getD (vals.length - 1) 0 - vals.getD many 0 + y else 12) = gn from egn.symm]
      have gb : vals.getD (vals.length - 1) 0 - vals.getD many 0 ≤ gn ∧ gn ≤ 12 := by rw [egn]; split <;> omega
      have G8 : Gd K d H H8 := (((((G2.trans g4).gr g5).gr g6).gr g7).trans g8)
      have cl : (vals.drop many).length = r2 + 1 := by rw [List.length_drop]; omega
      have hl : (vals.take many).length = many := by rw [List.length_take]; omega
      have c0 : (vals.drop many).getD 0 0 = vals.getD many 0 := by
        have := RW.getD_right (l := vals.take many) (r := vals.drop many) (n := many) (by omega)
        rw [hcat, hl, Nat.sub_self] at this
        exact this.symm
      have ce : (vals.drop many).getD ((vals.drop many).length - 1) 0 = vals.getD (vals.length - 1) 0 := by
        have := RW.getD_right (l := vals.take many) (r := vals.drop many) (n := vals.length - 1) (by omega)
        rw [hcat, hl] at this
        rw [this, cl]
        congr 1; omega
      refine fin _ _ (vals.take many) (vals.drop many) gn (G8.gr (Ge.new ntp)) ((d8.gr (Ge.new (T := tbs K) ntp)).mono (by omega)) ⟨tp, l5, l6, rfl, upd_same, ?_, ?_, by omega, by omega, by omega, fun D xs e => ⟨(G2.trans g4).fresh d4 n5 e, fun z => by
        by_cases y : D = d
        · exact ne6 (z.trans y)
        · have h := g5.lst ((G2.trans g4).lst y e)
          rw [← z, n6] at h; cases h⟩⟩
        ⟨by omega, by omega, fun x hx => vb x (List.mem_of_mem_take hx), fun x hx => vb x (List.mem_of_mem_drop hx), by omega, by omega, fun j hj => ?_, ?_, ?_⟩
      · exact (Ge.new (T := tbs K) ntp).lst (g8.lst ne5 h57)
      · exact (Ge.new (T := tbs K) ntp).lst (g8.lst ne6 h67)
      · rw [hcat] at hj ⊢
        exact vm j hj
      · rw [ce, c0]; omega
      · show RW.ev ⟨vals.take many, vals.drop many, gn⟩ 0 = first
        by_cases z : 0 < many
        · rw [RW.ev_low (t := ⟨vals.take many, vals.drop many, gn⟩) (by show 0 < (vals.take many).length; omega)]
          have := RW.getD_left (l := vals.take many) (r := vals.drop many) (n := 0) (by omega)
          rw [hcat, v0] at this
          exact this.symm
        · have m0 : many = 0 := by omega
          subst m0
          show (if 0 < (vals.take 0).length then _ else RW.evc (vals.drop 0) gn (0 - (vals.take 0).length)) = first
          rw [if_neg (by simp)]
          unfold RW.evc
          simp
          rw [← List.getD_eq_getElem?_getD]
          exact v0
end
end K17
set_option Elab.async false
set_option linter.all false
set_option maxRecDepth 100000
set_option pp.maxSteps 900
set_option maxHeartbeats 4000000
namespace K17
open PySem PySem.Spec PyProof.Rows L2 LamX NdefX
section
variable {P : Program} {w : World} {K : PySem.W.Frag} {mg : Str → Option Value} {base : Heap}
theorem tri_at0 {hs cs : List Int} {g g' : Int} : tri hs cs g 0 = tri hs cs g' 0 := by
  by_cases z : 0 < hs.length
  · show RW.ev ⟨hs, cs, g⟩ 0 = RW.ev ⟨hs, cs, g'⟩ 0
    rw [RW.ev_low (t := ⟨hs, cs, g⟩) z, RW.ev_low (t := ⟨hs, cs, g'⟩) z]
  · show (if 0 < hs.length then _ else RW.evc cs g (0 - hs.length)) = (if 0 < hs.length then _ else RW.evc cs g' (0 - hs.length))
    rw [if_neg z, if_neg z, Nat.zero_sub]
    unfold RW.evc
    simp
theorem Risen.more {hs cs : List Int} {g g' first : Int} (r : Risen hs cs g first) (h : g ≤ g') (h2 : g' ≤ 12) : Risen hs cs g' first :=
  ⟨r.h3, r.c3, r.h12, r.c12, ⟨by have := r.g12.1; omega, h2⟩, r.c0, r.asc, by have := r.wrap; omega, by rw [← r.at0]; exact tri_at0⟩
theorem sc_law_counting : FnScope ["_law_draws", "_law_first", "_law_row"] ["_law_draws", "_law_first"] (defScope (topS 89)) := ⟨rfl, rfl, rfl, by decide +kernel, rfl, by decide +kernel, by decide +kernel⟩
def spLawCounting (K : PySem.W.Frag) : Sp := fun vs H Q _ => ∃ (d : Addr) (n : Nat) (first : Int), vs = [.ref d, .int first] ∧ Dr H d n ∧ n ≤ 100000 ∧ 0 ≤ first ∧ first ≤ 2 ∧ ∀ H' v hs cs g, Gd K d H H' → Dr H' d (n + 20) → OwnF H H' v hs cs g → Risen hs cs g first → 0 < g → Q v H'
theorem ok_law_counting (X : Txt K mg) : Ok P w K mg base CX0 4 "_law_counting" ["_law_draws", "_law_first"] (spLawCounting K) := by
  refine ok_def0 X 71 rfl sc_law_counting (by decide +kernel) (fun vs H Q E h => ?_) (fun _ _ _ _ _ _ us hl => match us, hl with | [_, _], _ => rfl) (fun f cdv A outer s H vs Q E hr h => ?_)
  · obtain ⟨d, n, first, rfl, _⟩ := h; rfl
  · obtain ⟨d, n, first, rfl, dr, hn, f0, f2, fin⟩ := h
    refine ⟨_, (pss_cons (ps_set (i := 2) sc_law_counting.nd rfl (.inl rfl) (pe_o (ok_law_rising X) hr pass0 (pa_cons (pv 0) (pa_cons pe_int (pa_cons (pv 1) pa_nil)))))
  (pss_one (ps_ret (pe_tup (pa_cons (pe_ix (ixT_K (K := K)) (pv 2) pe_int (fun _ _ => rfl)) (pa_cons (pe_ix (ixT_K (K := K)) (pv 2) pe_int (fun _ _ => rfl)) (pa_cons (pe_callB (call_max2 rfl) (by rfl) X.b_max (by decide +kernel) (pa_cons pe_int (pa_cons (pe_ix (ixT_K (K := K)) (pv 2) pe_int (fun _ _ => rfl)) pa_nil))) pa_nil))))))), ?_⟩
    refine ⟨_, rfl, _, rfl, d, n, first, rfl, dr, hn, f0, f2, fun H1 v hs cs g g1 d1 ow ri => ?_⟩
    obtain ⟨tp, a, b, rfl, h1, h2, h3, c0, cz, hz, nab⟩ := ow
    refine ⟨_, rfl, tp, _, _, _, rfl, rfl, .of h1, rfl, _, rfl, tp, _, _, _, rfl, rfl, .of h1, rfl, _, rfl, tp, _, _, _, rfl, rfl, .of h1, rfl, _, _, rfl, by show 3 ≤ sizeLine; decide, fun u nu => ?_⟩
    have gb := ri.g12
    have e : (if g > 1 then g else 1) = if 1 < g then g else 1 := rfl
    refine fin _ _ hs cs (if g > 1 then g else 1) (g1.gr (Ge.new nu)) ((d1.gr (Ge.new (T := tbs K) nu)).mono (by omega)) ⟨u, a, b, rfl, upd_same, (Ge.new (T := tbs K) nu).lst h2, (Ge.new (T := tbs K) nu).lst h3, c0, cz, hz, nab⟩ (ri.more (by split <;> omega) (by split <;> omega)) (by split <;> omega)
theorem sc_law_loose : FnScope ["_law_draws", "_law_thing", "_law_found", "_law_part"] ["_law_draws", "_law_thing"] (defScope (topS 78)) := ⟨rfl, rfl, rfl, by decide +kernel, rfl, by decide +kernel, by decide +kernel⟩
def spLooseI (K : PySem.W.Frag) : Sp := fun vs H Q _ => ∃ (v : V) (i : Int), vs = [v, .int i] ∧ ∀ H', Gr K H H' → Q (.int i) H'
theorem ok_law_loose_int (X : Txt K mg) : Ok P w K mg base CX0 2 "_law_loose" ["_law_draws", "_law_thing"] (spLooseI K) := by
  refine ok_def0 X 60 rfl sc_law_loose (by decide +kernel) (fun vs H Q E h => ?_) (fun _ _ _ _ _ _ us hl => match us, hl with | [_, _], _ => rfl) (fun f cdv A outer s H vs Q E hr h => ?_)
  · obtain ⟨v, i, rfl, _⟩ := h; rfl
  · obtain ⟨v, i, rfl, q⟩ := h
    refine ⟨_, (pss_cons (ps_if (pt_val (pe_callB (isiT_K (K := K)) (by rfl) X.b_isinstance (by decide +kernel) (pa_cons (pv 1) (pa_cons (pe_tup (pa_cons (pe_bltn (v := .ty "list") (by rfl) X.b_list (by decide +kernel) rfl) (pa_cons (pe_bltn (v := .ty "tuple") (by rfl) X.b_tuple (by decide +kernel) rfl) pa_nil))) pa_nil)))) (pss_cons (ps_never) (pss_one ps_never)) pss_nil) (pss_one (ps_ret (pv 1)))), ?_⟩
    refine ⟨_, rfl, by show 2 ≤ sizeLine; decide, fun tp ntp => ?_⟩
    refine ⟨_, tp, _, _, _, false, rfl, upd_same, .cons (.ty _) (.cons (.ty _) .nil), .base (.int i), kitAny_cons (b := false) (kit_ty (by decide +kernel)) (fun _ => kitAny_cons (b := false) (kit_ty (by decide +kernel)) (fun _ => rfl) (by intro z; cases z)) (by intro z; cases z), false, rfl, ifF ?_⟩
    exact ⟨_, rfl, q _ (Ge.new ntp)⟩
def spLooseL (K : PySem.W.Frag) : Sp := fun vs H Q _ => ∃ (d l : Addr) (ns : List Int) (n : Nat), vs = [.ref d, .ref l] ∧ Dr H d n ∧ n ≤ 100000 ∧ H l = some (.lst (ns.map V.int)) ∧ l ≠ d ∧ ns.length ≤ 1000 ∧
  ∀ H' p, Gd K d H H' → Dr H' d (n + 1) → Sq H' p (ns.map V.int) → p ≠ d → Q (.ref p) H'
theorem ok_law_loose_list (X : Txt K mg) : Ok P w K mg base CX0 3 "_law_loose" ["_law_draws", "_law_thing"] (spLooseL K) := by
  refine ok_def0 X 60 rfl sc_law_loose (by decide +kernel) (fun vs H Q E h => ?_) (fun _ _ _ _ _ _ us hl => match us, hl with | [_, _], _ => rfl) (fun f cdv A outer s H vs Q E hr h => ?_)
  · obtain ⟨d, l, ns, n, rfl, _⟩ := h; rfl
  · obtain ⟨d, l, ns, n, rfl, dr, hn, hl, ne, hz, q⟩ := h
    refine ⟨_, (pss_cons (ps_if (pt_val (pe_callB (isiT_K (K := K)) (by rfl) X.b_isinstance (by decide +kernel) (pa_cons (pv 1) (pa_cons (pe_tup (pa_cons (pe_bltn (v := .ty "list") (by rfl) X.b_list (by decide +kernel) rfl) (pa_cons (pe_bltn (v := .ty "tuple") (by rfl) X.b_tuple (by decide +kernel) rfl) pa_nil))) pa_nil))))
  (pss_cons (ps_setLc (i := 2) (own := [("_law_part", 3)]) (g := (gName 3)) (tt := tYes) rfl sc_law_loose.nd rfl rfl (sw_true rfl rfl rfl (by decide +kernel)) (piL_K (K := K) (pv 1)) (blkOk_by (N := ["_law_draws", "_law_thing", "_law_found", "_law_part"]) (sc := defScope (topS 78)) (by decide +kernel)) (fun _ _ _ _ _ => (pg_name (i := 3) sc_law_loose.nd rfl (.inl rfl))) (fun _ _ _ _ _ => pts_nil) (fun _ _ _ _ _ => (pe_o (ok_law_loose_int X) hr pass0 (pa_cons (pv 0) (pa_cons (pv 3) pa_nil)))))
  (pss_one (ps_ret (pe_ifExp (pt_cmpR op_eq (pe_o (ok_law_draw X) hr pass0 (pa_cons (pv 0) (pa_cons pe_int pa_nil))) pe_int (nomark _)) (pv 2) (pe_callTy (tuple_K (K := K)) (by rfl) X.b_tuple (by decide +kernel) (pa_cons (pv 2) pa_nil))))))
  pss_nil)
  (pss_one (ps_ret (pv 1)))), ?_⟩
    refine ⟨_, rfl, by show 2 ≤ sizeLine; decide, fun tp ntp => ?_⟩
    have g1 : Gr K H (upd H tp (.tup [.ty "list", .ty "tuple"])) := Ge.new ntp
    have h1 : upd H tp (.tup [.ty "list", .ty "tuple"]) tp = some (.tup [.ty "list", .ty "tuple"]) := upd_same
    generalize upd H tp (.tup [.ty "list", .ty "tuple"]) = H1 at g1 h1 ⊢
    refine ⟨_, tp, _, _, _, true, rfl, h1, .cons (.ty _) (.cons (.ty _) .nil), .base (.lst (g1.lst hl)), kit_lt_l, true, rfl, ifT ?_⟩
    refine ⟨_, rfl, l, rfl, ⟨_, .of (g1.lst hl)⟩, fun D hD => ?_⟩
    refine lc_lst (K := K) (fun i => V.int (ns.getD i 0)) hD (.of (g1.lst hl)) (by simp; omega) (fun i x H4 Q4 hx g4 q4 => ?_) (fun H4 g4 h4 => ?_)
    · have hi : i < ns.length := by
        have := (List.getElem?_eq_some_iff.mp hx).1
        simpa using this
      obtain rfl : x = V.int (ns.getD i 0) := by
        rw [List.getElem?_map, List.getElem?_eq_getElem hi] at hx
        cases hx
        rw [RW.getD_lt hi]
      exact ⟨rfl, _, rfl, _, rfl, _, _, rfl, fun H5 g5 => q4 H5 g5⟩
    · have e4 : H4 D = some (.lst (ns.map V.int)) := by
        rw [h4]
        congr 2
        apply List.ext_getElem
        · simp
        · intro i h1 h2
          have hi : i < ns.length := by simpa using h2
          simp only [List.getElem_map, List.getElem_range]
          rw [RW.getD_lt hi]
      have gr4 := g1.trans g4
      have nD : D ≠ d := (dr.gr g1).fresh hD
      refine ⟨_, rfl, d, 2, n, rfl, dr.gr gr4, by omega, by omega, by omega, fun r H5 hr5 g5 d5 => ?_⟩
      have h5 := g5.lst nD e4
      refine ⟨rfl, _, rfl, iteD (fun e => ?_) (fun e => ?_)⟩
      · exact ⟨_, rfl, q H5 D ((Gd.of gr4).trans g5) d5 (.inl h5) nD⟩
      · refine ⟨_, rfl, _, rfl, ⟨D, _, rfl, .inl ⟨.of h5, fun u nu => ?_⟩⟩⟩
        exact q _ u (((Gd.of gr4).trans g5).gr (Ge.new nu)) (d5.gr (Ge.new (T := tbs K) nu)) (.inr upd_same) (d5.fresh nu)
/-- own rows' values in order, as the law asks it -/
theorem asc_sorted {ns ms : List Int} (hp : ms.Perm ns) (hs : ms.Pairwise (· ≤ ·)) : ns = ms ↔ ∀ i, i + 1 < ns.length → ns.getD i 0 ≤ ns.getD (i + 1) 0 := by
  constructor
  · rintro rfl i hi
    rw [RW.getD_lt (by omega), RW.getD_lt hi]
    exact List.pairwise_iff_getElem.mp hs i (i + 1) (by omega) hi (by omega)
  · intro h
    have ns' : ns.Pairwise (· ≤ ·) := by
      rw [List.pairwise_iff_getElem]
      intro i j hi hj hij
      have up : ∀ k, i + k < ns.length → ns.getD i 0 ≤ ns.getD (i + k) 0 := fun k => by
        induction k with
        | zero => intro _; exact Int.le_refl _
        | succ k ih => intro hk; exact Int.le_trans (ih (by omega)) (h (i + k) (by omega))
      have := up (j - i) (by omega)
      rw [show i + (j - i) = j by omega, RW.getD_lt hi, RW.getD_lt hj] at this
      exact this
    exact (List.Perm.eq_of_pairwise (fun a b _ _ h1 h2 => Int.le_antisymm h1 h2) ns' hs hp.symm)
theorem eqv_lists (ns ms : List Int) : PyData.eqv (.list (ns.map .int)) (.list (ms.map .int)) = decide (ns = ms) := by
  show PyData.eqvAll (ns.map .int) (ms.map .int) = _
  induction ns generalizing ms with
  | nil =>
    cases ms with
    | nil => rfl
    | cons m ms => rfl
  | cons n ns ih =>
    cases ms with
    | nil => rfl
    | cons m ms =>
      show (PyData.eqv (.int n) (.int m) && PyData.eqvAll (ns.map .int) (ms.map .int)) = _
      rw [ih]
      show ((n == m) && decide (ns = ms)) = _
      by_cases e : n = m
      · subst e; simp
      · simp [e]
theorem shaped_ints (ns : List Int) : SeqAt.shaped (.list (ns.map .int)) = true := by
  obtain ⟨a, b, _⟩ := lay_ints ns
  have h1 : PyData.canLay0 (.list (ns.map .int)) = true := a
  have h2 : (PyData.list (ns.map .int)).depth ≤ 64 := by
    show PyData.depthAll (ns.map .int) + 1 ≤ 64
    rw [b]; decide
  show (PyData.canLay0 (.list (ns.map .int)) && decide ((PyData.list (ns.map .int)).depth ≤ 64)) = true
  rw [h1, decide_eq_true h2]; rfl
/-- the values up to where a row goes round are in order just when it never falls -/
theorem mono_upto {f : Nat → Int} {c h : Nat} {g : Int} (hc : 0 < c) (hg : RW.Gains f c g h) : (∀ i, i + 1 < h + c + 1 → f i ≤ f (i + 1)) ↔ Mono f := by
  constructor
  · intro k n
    induction n using Nat.strongRecOn with
    | _ n ih =>
      by_cases z : n < h + c
      · exact k n (by omega)
      · have i := ih (n - c) (by omega)
        have a := hg (n - c) (by omega)
        have b := hg (n - c + 1) (by omega)
        rw [show n - c + c = n by omega] at a
        rw [show n - c + 1 + c = n + 1 by omega] at b
        omega
  · intro m i _
    exact m i
end
end K17
set_option Elab.async false
set_option linter.all false
set_option maxRecDepth 100000
set_option pp.maxSteps 900
set_option maxHeartbeats 4000000
namespace K17
open PySem PySem.Spec PyProof.Rows L2 LamX NdefX
section
variable {P : Program} {w : World} {K : PySem.W.Frag} {mg : Str → Option Value} {base : Heap}
theorem sc_law_is_flat : FnScope ["_law_row", "_law_values"] ["_law_row"] (defScope (topS 92)) := ⟨rfl, rfl, rfl, by decide +kernel, rfl, by decide +kernel, by decide +kernel⟩
def spIsFlat (K : PySem.W.Frag) : Sp := fun vs H Q _ => ∃ (v : V) (hs cs : List Int) (g : Int), vs = [v] ∧ OwnR H v hs cs g ∧ hs.length + cs.length + 1 < 64 ∧ (Rising (tri hs cs g) → ∀ H', Gr K H H' → Q (.bl true) H') ∧ (¬ Rising (tri hs cs g) → ∀ H', Gr K H H' → Q (.bl false) H')
theorem ok_law_is_flat (X : Txt K mg) : Ok P w K mg base CX0 3 "_law_is_flat" ["_law_row"] (spIsFlat K) := by
  refine ok_def0 X 74 rfl sc_law_is_flat (by decide +kernel) (fun vs H Q E h => ?_) (fun _ _ _ _ _ _ us hl => match us, hl with | [_], _ => rfl) (fun f cdv A outer s H vs Q E hr h => ?_)
  · obtain ⟨v, hs, cs, g, rfl, _⟩ := h; rfl
  · obtain ⟨v, hs, cs, g, rfl, ow, hz, fin1, fin2⟩ := h
    refine ⟨_, (pss_cons (ps_set (i := 1) sc_law_is_flat.nd rfl (.inl rfl) (pe_o (ok_law_upto X) hr pass0 (pa_cons (pv 0) (pa_cons (pe_op op_add (pe_op op_add (pe_callB (len_K (K := K)) (by rfl) X.b_len (by decide +kernel) (pa_cons (pe_ix (ixT_K (K := K)) (pv 0) pe_int (fun _ _ => rfl)) pa_nil)) (pe_callB (len_K (K := K)) (by rfl) X.b_len (by decide +kernel) (pa_cons (pe_ix (ixT_K (K := K)) (pv 0) pe_int (fun _ _ => rfl)) pa_nil))) pe_int) pa_nil))))
  (pss_one (ps_ret (pe_and (pe_cmpR (eqD_K (K := K) hr.units) (pv 1) (pe_callB (sorted_K (K := K)) (by rfl) X.b_sorted (by decide +kernel) (pa_cons (pv 1) pa_nil)) (nomark _)) (pe_one (pe_cmpR op_ge (pe_ix (ixL_K (K := K)) (pv 1) pe_int (fun _ _ => rfl)) pe_int (nomark _))))))), ?_⟩
    obtain ⟨tp, a, b, rfl, h1, h2, h3, c0, cz, hz2⟩ := ow
    have ow : OwnR H (.ref tp) hs cs g := ⟨tp, a, b, rfl, h1, h2, h3, c0, cz, hz2⟩
    refine ⟨_, rfl, _, rfl, tp, _, _, _, rfl, rfl, .of h1, rfl, a, _, rfl, .inl (.of h2), ?_⟩
    rw [List.length_map]
    refine ⟨_, rfl, tp, _, _, _, rfl, rfl, .of h1, rfl, b, _, rfl, .inl (.of h3), ?_⟩
    rw [List.length_map]
    refine ⟨_, _, rfl, rfl, _, _, rfl, rfl, _, hs, cs, g, hs.length + cs.length + 1, rfl, ow, by omega, fun H1 l g1 n1 hl => ?_⟩
    obtain ⟨vals, evals⟩ : ∃ vals, vals = (List.range (hs.length + cs.length + 1)).map (tri hs cs g) := ⟨_, rfl⟩
    rw [← evals] at hl
    have vl : vals.length = hs.length + cs.length + 1 := by rw [evals]; simp
    have vg : ∀ i, i < hs.length + cs.length + 1 → vals.getD i 0 = tri hs cs g i := fun i hi => by rw [evals, RW.getD_lt (by simpa using hi)]; simp
    refine ⟨_, rfl, _, rfl, l, vals, rfl, .of hl, by omega, fun ms p hp hs2 np => ?_⟩
    have g2 : Gr K H1 (upd H1 p (.lst (ms.map V.int))) := Ge.new np
    have hp2 : upd H1 p (.lst (ms.map V.int)) p = some (.lst (ms.map V.int)) := upd_same
    have hl2 := g2.lst hl
    generalize upd H1 p (.lst (ms.map V.int)) = H2 at g2 hp2 hl2 ⊢
    refine ⟨.list (vals.map .int), .list (ms.map .int), .lst (.of hl2) (dp_ints _), .lst (.of hp2) (dp_ints _), shaped_ints _, shaped_ints _, ?_⟩
    rw [eqv_lists]
    have asc : vals = ms ↔ Mono (tri hs cs g) := by
      rw [asc_sorted hp hs2, ← mono_upto (c := cs.length) (h := hs.length) c0 (RW.ev_gains (t := ⟨hs, cs, g⟩) c0)]
      constructor
      · intro k i hi
        have := k i (by omega)
        rw [vg _ (by omega), vg _ (by omega)] at this
        exact this
      · intro k i hi
        rw [vg _ (by omega), vg _ (by omega)]
        exact k i (by omega)
    refine ⟨_, rfl, iteD (fun e => ?_) (fun e => ?_)⟩
    · refine ⟨_, rfl, l, _, _, _, rfl, rfl, .of hl2, atID (i := 0) (by omega), _, _, rfl, rfl, ?_⟩
      have e0 : vals.getD 0 0 = tri hs cs g 0 := vg 0 (by omega)
      show Q (.bl (decide ((0 : Int) ≤ vals.getD 0 0))) H2
      rw [e0]
      by_cases z : (0 : Int) ≤ tri hs cs g 0
      · exact qDT z (fin1 ⟨z, asc.mp e⟩ H2 (g1.trans g2))
      · exact qDF z (fin2 (fun r => z r.1) H2 (g1.trans g2))
    · exact fin2 (fun r => e (asc.mpr r.2)) H2 (g1.trans g2)
theorem sc_law_counts : FnScope ["_law_row", "_law_values"] ["_law_row"] (defScope (topS 86)) := ⟨rfl, rfl, rfl, by decide +kernel, rfl, by decide +kernel, by decide +kernel⟩
def spLawCounts (K : PySem.W.Frag) : Sp := fun vs H Q _ => ∃ (v : V) (hs cs : List Int) (g : Int), vs = [v] ∧ OwnR H v hs cs g ∧ hs.length + cs.length + 1 < 64 ∧ ((Rising (tri hs cs g) ∧ 0 < g) → ∀ H', Gr K H H' → Q (.bl true) H') ∧ (¬ (Rising (tri hs cs g) ∧ 0 < g) → ∀ H', Gr K H H' → Q (.bl false) H')
theorem ok_law_counts (X : Txt K mg) : Ok P w K mg base CX0 3 "_law_counts" ["_law_row"] (spLawCounts K) := by
  refine ok_def0 X 68 rfl sc_law_counts (by decide +kernel) (fun vs H Q E h => ?_) (fun _ _ _ _ _ _ us hl => match us, hl with | [_], _ => rfl) (fun f cdv A outer s H vs Q E hr h => ?_)
  · obtain ⟨v, hs, cs, g, rfl, _⟩ := h; rfl
  · obtain ⟨v, hs, cs, g, rfl, ow, hz, fin1, fin2⟩ := h
    refine ⟨_, (pss_cons (ps_set (i := 1) sc_law_counts.nd rfl (.inl rfl) (pe_o (ok_law_upto X) hr pass0 (pa_cons (pv 0) (pa_cons (pe_op op_add (pe_op op_add (pe_callB (len_K (K := K)) (by rfl) X.b_len (by decide +kernel) (pa_cons (pe_ix (ixT_K (K := K)) (pv 0) pe_int (fun _ _ => rfl)) pa_nil)) (pe_callB (len_K (K := K)) (by rfl) X.b_len (by decide +kernel) (pa_cons (pe_ix (ixT_K (K := K)) (pv 0) pe_int (fun _ _ => rfl)) pa_nil))) pe_int) pa_nil))))
  (pss_one (ps_ret (pe_and (pe_cmpR op_gt (pe_ix (ixT_K (K := K)) (pv 0) pe_int (fun _ _ => rfl)) pe_int (nomark _)) (pe_and (pe_cmpR (eqD_K (K := K) hr.units) (pv 1) (pe_callB (sorted_K (K := K)) (by rfl) X.b_sorted (by decide +kernel) (pa_cons (pv 1) pa_nil)) (nomark _)) (pe_one (pe_cmpR op_ge (pe_ix (ixL_K (K := K)) (pv 1) pe_int (fun _ _ => rfl)) pe_int (nomark _)))))))), ?_⟩
    obtain ⟨tp, a, b, rfl, h1, h2, h3, c0, cz, hz2⟩ := ow
    have ow : OwnR H (.ref tp) hs cs g := ⟨tp, a, b, rfl, h1, h2, h3, c0, cz, hz2⟩
    refine ⟨_, rfl, _, rfl, tp, _, _, _, rfl, rfl, .of h1, rfl, a, _, rfl, .inl (.of h2), ?_⟩
    rw [List.length_map]
    refine ⟨_, rfl, tp, _, _, _, rfl, rfl, .of h1, rfl, b, _, rfl, .inl (.of h3), ?_⟩
    rw [List.length_map]
    refine ⟨_, _, rfl, rfl, _, _, rfl, rfl, _, hs, cs, g, hs.length + cs.length + 1, rfl, ow, by omega, fun H1 l g1 n1 hl => ?_⟩
    obtain ⟨vals, evals⟩ : ∃ vals, vals = (List.range (hs.length + cs.length + 1)).map (tri hs cs g) := ⟨_, rfl⟩
    rw [← evals] at hl
    have vl : vals.length = hs.length + cs.length + 1 := by rw [evals]; simp
    have vg : ∀ i, i < hs.length + cs.length + 1 → vals.getD i 0 = tri hs cs g i := fun i hi => by rw [evals, RW.getD_lt (by simpa using hi)]; simp
    refine ⟨_, rfl, tp, _, _, _, rfl, rfl, .of (g1.tup h1), rfl, _, _, rfl, rfl, _, rfl, iteD (fun eg => ?_) (fun eg => fin2 (fun r => eg r.2) H1 g1)⟩
    refine ⟨_, rfl, _, rfl, l, vals, rfl, .of hl, by omega, fun ms p hp hs2 np => ?_⟩
    have g2 : Gr K H1 (upd H1 p (.lst (ms.map V.int))) := Ge.new np
    have hp2 : upd H1 p (.lst (ms.map V.int)) p = some (.lst (ms.map V.int)) := upd_same
    have hl2 := g2.lst hl
    generalize upd H1 p (.lst (ms.map V.int)) = H2 at g2 hp2 hl2 ⊢
    refine ⟨.list (vals.map .int), .list (ms.map .int), .lst (.of hl2) (dp_ints _), .lst (.of hp2) (dp_ints _), shaped_ints _, shaped_ints _, ?_⟩
    rw [eqv_lists]
    have asc : vals = ms ↔ Mono (tri hs cs g) := by
      rw [asc_sorted hp hs2, ← mono_upto (c := cs.length) (h := hs.length) c0 (RW.ev_gains (t := ⟨hs, cs, g⟩) c0)]
      constructor
      · intro k i hi
        have := k i (by omega)
        rw [vg _ (by omega), vg _ (by omega)] at this
        exact this
      · intro k i hi
        rw [vg _ (by omega), vg _ (by omega)]
        exact k i (by omega)
    refine ⟨_, rfl, iteD (fun e => ?_) (fun e => ?_)⟩
    · refine ⟨_, rfl, l, _, _, _, rfl, rfl, .of hl2, atID (i := 0) (by omega), _, _, rfl, rfl, ?_⟩
      have e0 : vals.getD 0 0 = tri hs cs g 0 := vg 0 (by omega)
      show Q (.bl (decide ((0 : Int) ≤ vals.getD 0 0))) H2
      rw [e0]
      by_cases z : (0 : Int) ≤ tri hs cs g 0
      · exact qDT z (fin1 ⟨⟨z, asc.mp e⟩, eg⟩ H2 (g1.trans g2))
      · exact qDF z (fin2 (fun r => z r.1.1) H2 (g1.trans g2))
    · exact fin2 (fun r => e (asc.mpr r.1.2)) H2 (g1.trans g2)
end
end K17
set_option Elab.async false
set_option linter.all false
set_option maxRecDepth 100000
set_option pp.maxSteps 900
set_option maxHeartbeats 4000000
namespace K17
open PySem PySem.Spec PyProof.Rows L2 LamX NdefX
section
variable {P : Program} {w : World} {K : PySem.W.Frag} {mg : Str → Option Value} {base : Heap}
theorem Gd.sq {d b : Addr} {H H' : Hp} {xs : List V} {n : Nat} (g : Gd K d H H') (dr : Dr H d n) (nb : b ≠ d) (h : Sq H b xs) : Sq H' b xs := by
  rcases h with h | h
  · exact .inl (g.lst nb h)
  · exact .inr (g.tup dr h)
theorem sc_law_passed : FnScope ["_law_draws", "_law_row", "_law_head", "_law_cycle", "_law_gain", "_law_twice", "_law_value"] ["_law_draws", "_law_row"] (defScope (topS 85)) := ⟨rfl, rfl, rfl, by decide +kernel, rfl, by decide +kernel, by decide +kernel⟩
def spPassed (K : PySem.W.Frag) : Sp := fun vs H Q _ => ∃ (d : Addr) (v : V) (hs cs : List Int) (g : Int) (n : Nat), vs = [.ref d, v] ∧ Dr H d n ∧ n ≤ 90000 ∧ OwnD d H v hs cs g ∧ hs.length ≤ 100 ∧ cs.length ≤ 100 ∧ ∀ H' p, Gd K d H H' → Dr H' d (n + 10) → IsRow K H' p (tri hs cs g) → Q (.ref p) H'
theorem ok_law_passed (X : Txt K mg) : Ok P w K mg base CX0 6 "_law_passed" ["_law_draws", "_law_row"] (spPassed K) := by
  refine ok_def0 X 67 rfl sc_law_passed (by decide +kernel) (fun vs H Q E h => ?_) (fun _ _ _ _ _ _ us hl => match us, hl with | [_, _], _ => rfl) (fun f cdv A outer s H vs Q E hr h => ?_)
  · obtain ⟨d, v, hs, cs, g, n, rfl, _⟩ := h; rfl
  · obtain ⟨d, v, hs, cs, g, n, rfl, dr, hn, ow, hz, cz, fin⟩ := h
    have restC : ∃ t, PSs (cxOf CX0 P w K mg base ["_law_draws", "_law_row", "_law_head", "_law_cycle", "_law_gain", "_law_twice", "_law_value"] "_law_passed" (defScope (topS 85)) f cdv A outer s H E).nox ((defBody (topS 85)).drop 4) t ∧
        ∀ (H' : Hp) (lh lc : Addr) (hs' cs' : List Int) (g' : Int) (j5 : Option V) (n' : Nat), Gd K d H H' → Dr H' d n' → n' ≤ n + 2 → H' lh = some (.lst (hs'.map V.int)) → H' lc = some (.lst (cs'.map V.int)) → lh ≠ d → lc ≠ d → 0 < cs'.length → hs'.length ≤ 500 → cs'.length ≤ 500 → (∀ m, tri hs' cs' g' m = tri hs cs g m) →
          t { nx := fun _ H' => Q .non H', rt := Q } [some (.ref d), some v, some (.ref lh), some (.ref lc), some (.int g'), j5, none] H' := by
      refine ⟨_, (pss_one (ps_ret (row_K X (ok_init X) hr pass0 (pa_cons (pe_o (ok_law_loose_list X) hr pass0 (pa_cons (pv 0) (pa_cons (pv 2) pa_nil))) (pa_cons (pe_o (ok_law_loose_list X) hr pass0 (pa_cons (pv 0) (pa_cons (pv 3) pa_nil))) (pa_cons (pv 4) pa_nil)))))), ?_⟩
      intro H' lh lc hs' cs' g' j5 n' gd d' hn' h1 h2 ne1 ne2 c0 hz' cz' same
      refine ⟨_, rfl, _, rfl, d, lh, hs', n', rfl, d', by omega, h1, ne1, by omega, fun H1 p1 g1 d1 sq1 np1 => ?_⟩
      refine ⟨_, rfl, _, rfl, d, lc, cs', n' + 1, rfl, d1, by omega, g1.lst ne2 h2, ne2, by omega, fun H2 p2 g2 d2 sq2 np2 => ?_⟩
      refine ⟨_, rfl, fun x dx nx nd ne => ?_⟩
      exact mkRow (g2.sq d1 np1 sq1) sq2 c0 (by omega) (by omega) (fun p H3 g3 r3 => fin H3 p (((gd.trans g1).trans g2).gr g3) ((d2.gr g3).mono (by omega)) (r3.congr same)) x dx nx nd ne
    obtain ⟨tC, htC, hC⟩ := restC
    have restB : ∃ t, PSs (cxOf CX0 P w K mg base ["_law_draws", "_law_row", "_law_head", "_law_cycle", "_law_gain", "_law_twice", "_law_value"] "_law_passed" (defScope (topS 85)) f cdv A outer s H E).nox ((defBody (topS 85)).drop 3) t ∧
        ∀ (H' : Hp) (lh lc : Addr) (hs' cs' : List Int) (g' : Int) (j5 : Option V) (n' : Nat), Gd K d H H' → Dr H' d n' → n' ≤ n + 1 → H' lh = some (.lst (hs'.map V.int)) → H' lc = some (.lst (cs'.map V.int)) → lh ≠ d → lc ≠ d → 0 < cs'.length → hs'.length ≤ 400 → cs'.length ≤ 400 → (∀ m, tri hs' cs' g' m = tri hs cs g m) →
          t { nx := fun _ H' => Q .non H', rt := Q } [some (.ref d), some v, some (.ref lh), some (.ref lc), some (.int g'), j5, none] H' := by
      refine ⟨_, (pss_cons (ps_if (PW.pt (pw_and (pt_cmpR op_lt (pe_callB (len_K (K := K)) (by rfl) X.b_len (by decide +kernel) (pa_cons (pv 2) pa_nil)) pe_int (nomark _)) (pw_and (pt_cmpR op_eq (pe_o (ok_law_draw X) hr pass0 (pa_cons (pv 0) (pa_cons pe_int pa_nil))) pe_int (nomark _)) (pw_and1 (pt_chain op_lt op_lt (pe_un un_neg pe_int) (pe_op op_add (pe_ix (ixL_K (K := K)) (pv 3) pe_int (fun _ _ => rfl)) (pv 4)) pe_int)))))
  (pss_one (ps_par (i := 2) (j := 3) (by rfl) sc_law_passed.nd rfl rfl (by decide) rfl rfl (pa_cons (pe_op op_cat (pv 2) (pe_slice (slL_K (K := K)) (pv 3) po_none (po_some pe_int))) (pa_cons (pe_op op_cat (pe_slice (slL_K (K := K)) (pv 3) (po_some pe_int) po_none) (pe_lst (pa_cons (pe_op op_add (pe_ix (ixL_K (K := K)) (pv 3) pe_int (fun _ _ => rfl)) (pv 4)) pa_nil))) pa_nil)) (by rfl)))
  pss_nil)
  htC), ?_⟩
      intro H' lh lc hs' cs' g' j5 n' gd d' hn' h1 h2 ne1 ne2 c0 hz' cz' same
      refine ⟨_, rfl, lh, _, rfl, .inl (.of h1), ?_⟩
      rw [List.length_map]
      refine ⟨_, _, rfl, rfl, _, rfl, iteD (fun e1 => ?_) (fun e1 => ?_)⟩
      · refine ⟨_, rfl, d, 3, n', rfl, d', by omega, by omega, by omega, fun r H1 hr1 g1 d1 => ?_⟩
        have k1 := g1.lst ne1 h1
        have k2 := g1.lst ne2 h2
        have gd1 := gd.trans g1
        refine ⟨rfl, _, rfl, iteD (fun e2 => ?_) (fun e2 => ?_)⟩
        · have c0e : ((cs'.map V.int).length = cs'.length) := List.length_map ..
          refine ⟨_, rfl, _, rfl, lc, _, _, _, rfl, rfl, .of k2, atID (i := 0) c0, _, rfl, _, _, rfl, rfl, _, _, rfl, rfl, _, rfl, iteD (fun e3 => ⟨_, _, rfl, rfl, _, rfl, iteD (fun e4 => ?_) (fun e4 => ?_)⟩) (fun e3 => ⟨_, rfl, ifF ?_⟩)⟩
          · refine ⟨_, rfl, _, rfl, _, rfl, slL (ys := (cs'.take 1).map V.int) k2 (by rw [List.map_take]; exact cut_take (k := 1) (by simp; omega)) fun l5 n5 => ?_⟩
            have q5 : Gr K H1 (upd H1 l5 (.lst ((cs'.take 1).map V.int))) := Ge.new n5
            have h5 : upd H1 l5 (.lst ((cs'.take 1).map V.int)) l5 = some (.lst ((cs'.take 1).map V.int)) := upd_same
            generalize upd H1 l5 (.lst ((cs'.take 1).map V.int)) = H5 at q5 h5 ⊢
            refine ⟨lh, l5, _, _, rfl, rfl, q5.lst k1, h5, by simp; exact sized (by omega), fun l6 n6 => ?_⟩
            have q6 : Gr K H5 (upd H5 l6 (.lst (hs'.map V.int ++ (cs'.take 1).map V.int))) := Ge.new n6
            have h6 : upd H5 l6 (.lst (hs'.map V.int ++ (cs'.take 1).map V.int)) l6 = some (.lst ((hs' ++ cs'.take 1).map V.int)) := by rw [upd_same, List.map_append]
            have ne6 := (d1.gr q5).fresh n6
            generalize upd H5 l6 (.lst (hs'.map V.int ++ (cs'.take 1).map V.int)) = H6 at q6 h6 ⊢
            have q56 := q5.trans q6
            refine ⟨_, rfl, _, rfl, slL (ys := (cs'.drop 1).map V.int) (q56.lst k2) (by rw [List.map_drop]; exact cut_drop (k := 1) (by simp; omega)) fun l7 n7 => ?_⟩
            have q7 : Gr K H6 (upd H6 l7 (.lst ((cs'.drop 1).map V.int))) := Ge.new n7
            have h7 : upd H6 l7 (.lst ((cs'.drop 1).map V.int)) l7 = some (.lst ((cs'.drop 1).map V.int)) := upd_same
            generalize upd H6 l7 (.lst ((cs'.drop 1).map V.int)) = H7 at q7 h7 ⊢
            have q57 := q56.trans q7
            refine ⟨_, rfl, lc, _, _, _, rfl, rfl, .of (q57.lst k2), atID (i := 0) c0, _, rfl, _, _, rfl, rfl, by show 1 ≤ sizeLine; decide, fun l8 n8 => ?_⟩
            have q8 : Gr K H7 (upd H7 l8 (.lst [.int (cs'.getD 0 0 + g')])) := Ge.new n8
            have h8 : upd H7 l8 (.lst [.int (cs'.getD 0 0 + g')]) l8 = some (.lst (([cs'.getD 0 0 + g'] : List Int).map V.int)) := upd_same
            generalize upd H7 l8 (.lst [.int (cs'.getD 0 0 + g')]) = H8 at q8 h8 ⊢
            refine ⟨l7, l8, _, _, rfl, rfl, q8.lst h7, h8, by simp; exact sized (by omega), fun l9 n9 => ?_⟩
            have q58 := q57.trans q8
            have ne9 := (d1.gr q58).fresh n9
            have q9 : Gr K H8 (upd H8 l9 (.lst ((cs'.drop 1).map V.int ++ ([cs'.getD 0 0 + g'] : List Int).map V.int))) := Ge.new n9
            have h9 : upd H8 l9 (.lst ((cs'.drop 1).map V.int ++ ([cs'.getD 0 0 + g'] : List Int).map V.int)) l9 = some (.lst ((cs'.drop 1 ++ [cs'.getD 0 0 + g']).map V.int)) := by rw [upd_same, List.map_append]
            generalize upd H8 l9 (.lst ((cs'.drop 1).map V.int ++ ([cs'.getD 0 0 + g'] : List Int).map V.int)) = H9 at q9 h9 ⊢
            refine ⟨_, _, rfl, ?_⟩
            exact hC H9 l6 l9 (hs' ++ cs'.take 1) (cs'.drop 1 ++ [cs'.getD 0 0 + g']) g' j5 (n' + 1) (gd1.gr (q58.trans q9)) (d1.gr (q58.trans q9)) (by omega) (q9.lst (q8.lst (q7.lst h6))) h9 ne6 ne9 (by simp) (by simp; omega) (by simp; omega) (fun m => (RW.ev_turn c0 m).trans (same m))
          · exact hC H1 lh lc hs' cs' g' j5 (n' + 1) gd1 d1 (by omega) k1 k2 ne1 ne2 c0 (by omega) (by omega) same
          · exact hC H1 lh lc hs' cs' g' j5 (n' + 1) gd1 d1 (by omega) k1 k2 ne1 ne2 c0 (by omega) (by omega) same
        · exact ifF (hC H1 lh lc hs' cs' g' j5 (n' + 1) gd1 d1 (by omega) k1 k2 ne1 ne2 c0 (by omega) (by omega) same)
      · exact ifF (hC H' lh lc hs' cs' g' j5 n' gd d' (by omega) h1 h2 ne1 ne2 c0 (by omega) (by omega) same)
    obtain ⟨tB, htB, hB⟩ := restB
    refine ⟨_, (pss_cons (ps_asg (pe_tup (pa_cons (pe_callTy (list_K (K := K)) (by rfl) X.b_list (by decide +kernel) (pa_cons (pe_ix (ixT_K (K := K)) (pv 1) pe_int (fun _ _ => rfl)) pa_nil)) (pa_cons (pe_callTy (list_K (K := K)) (by rfl) X.b_list (by decide +kernel) (pa_cons (pe_ix (ixT_K (K := K)) (pv 1) pe_int (fun _ _ => rfl)) pa_nil)) (pa_cons (pe_ix (ixT_K (K := K)) (pv 1) pe_int (fun _ _ => rfl)) pa_nil)))) (tup_K (K := K) (pgs_cons (pg_name (i := 2) sc_law_passed.nd rfl (.inl rfl)) (pgs_cons (pg_name (i := 3) sc_law_passed.nd rfl (.inl rfl)) (pgs_cons (pg_name (i := 4) sc_law_passed.nd rfl (.inr rfl)) pgs_nil)))))
  (pss_cons (ps_set (i := 5) sc_law_passed.nd rfl (.inl rfl) (pe_op op_cat (pv 3) (pe_lc (own := [("_law_value", 6)]) (g := (gName 6)) (tt := tYes) rfl sc_law_passed.nd (piL_K (K := K) (pv 3)) (blkOk_by (N := ["_law_draws", "_law_row", "_law_head", "_law_cycle", "_law_gain", "_law_twice", "_law_value"]) (sc := defScope (topS 85)) (by decide +kernel)) (fun _ _ _ _ _ => (pg_name (i := 6) sc_law_passed.nd rfl (.inl rfl))) (fun _ _ _ _ _ => pts_nil) (fun _ _ _ _ _ => (pe_op op_add (pv 6) (pv 4))))))
  (pss_cons (ps_if (PW.pt (pw_and (pt_cmpR op_le (pe_callB (len_K (K := K)) (by rfl) X.b_len (by decide +kernel) (pa_cons (pv 5) pa_nil)) pe_int (nomark _)) (pw_and (pt_cmpR op_lt (pe_callB call_abs (by rfl) X.b_abs (by decide +kernel) (pa_cons (pv 4) pa_nil)) pe_int (nomark _)) (pw_and (pt_cmpR op_lt (pe_callB (max_K (K := K)) (by rfl) X.b_max (by decide +kernel) (pa_cons (pv 5) pa_nil)) pe_int (nomark _)) (pw_and (pt_cmpR op_gt (pe_callB (min_K (K := K)) (by rfl) X.b_min (by decide +kernel) (pa_cons (pv 5) pa_nil)) (pe_un un_neg pe_int) (nomark _)) (pw_and1 (pt_cmpR op_eq (pe_o (ok_law_draw X) hr pass0 (pa_cons (pv 0) (pa_cons pe_int pa_nil))) pe_int (nomark _))))))))
  (pss_one (ps_asg (pe_tup (pa_cons (pv 5) (pa_cons (pe_op op_mul pe_int (pv 4)) pa_nil))) (tup_K (K := K) (pgs_cons (pg_name (i := 3) sc_law_passed.nd rfl (.inl rfl)) (pgs_cons (pg_name (i := 4) sc_law_passed.nd rfl (.inr rfl)) pgs_nil)))))
  pss_nil)
  htB))), ?_⟩
    obtain ⟨tp, a, b, rfl, w1, w2, w3, c0, cz2, hz2, na, nb⟩ := ow
    refine ⟨_, rfl, tp, _, _, _, rfl, rfl, .of w1, rfl, a, _, rfl, .inl (.of w2), fun lh nlh => ?_⟩
    have g1 : Gr K H (upd H lh (.lst (hs.map V.int))) := Ge.new nlh
    have h1 : upd H lh (.lst (hs.map V.int)) lh = some (.lst (hs.map V.int)) := upd_same
    have ne1 := dr.fresh nlh
    generalize upd H lh (.lst (hs.map V.int)) = H1 at g1 h1 ⊢
    refine ⟨_, rfl, tp, _, _, _, rfl, rfl, .of (g1.tup w1), rfl, b, _, rfl, .inl (.of (g1.lst w3)), fun lc nlc => ?_⟩
    have g2 : Gr K H1 (upd H1 lc (.lst (cs.map V.int))) := Ge.new nlc
    have h2 : upd H1 lc (.lst (cs.map V.int)) lc = some (.lst (cs.map V.int)) := upd_same
    have ne2 := (dr.gr g1).fresh nlc
    generalize upd H1 lc (.lst (cs.map V.int)) = H2 at g2 h2 ⊢
    have g12 := g1.trans g2
    refine ⟨_, rfl, tp, _, _, _, rfl, rfl, .of (g12.tup w1), rfl, by show 3 ≤ sizeLine; decide, fun u nu => ?_⟩
    have g3 : Gr K H2 (upd H2 u (.tup [.ref lh, .ref lc, .int g])) := Ge.new nu
    have h3 : upd H2 u (.tup [.ref lh, .ref lc, .int g]) u = some (.tup [.ref lh, .ref lc, .int g]) := upd_same
    generalize upd H2 u (.tup [.ref lh, .ref lc, .int g]) = H3 at g3 h3 ⊢
    refine ⟨u, _, rfl, .of h3, rfl, _, _, rfl, _, _, rfl, _, _, rfl, rfl, ?_⟩
    have g13 := g12.trans g3
    have k1 := (g2.trans g3).lst h1
    have k2 := g3.lst h2
    -- twice
    refine ⟨_, rfl, _, rfl, lc, rfl, ⟨_, .of k2⟩, fun D hD => ?_⟩
    refine lc_lst (K := K) (fun i => V.int (cs.getD i 0 + g)) hD (.of k2) (by simp; omega) (fun i x H4 Q4 hx g4 q4 => ?_) (fun H4 g4 h4 => ?_)
    · have hi : i < cs.length := by
        have := (List.getElem?_eq_some_iff.mp hx).1
        simpa using this
      obtain rfl : x = V.int (cs.getD i 0) := by
        rw [List.getElem?_map, List.getElem?_eq_getElem hi] at hx
        cases hx
        rw [RW.getD_lt hi]
      exact ⟨rfl, _, rfl, _, rfl, _, _, rfl, rfl, q4 _ (Ge.refl _)⟩
    · have e4 : H4 D = some (.lst ((cs.map (· + g)).map V.int)) := by
        rw [h4]
        congr 2
        apply List.ext_getElem
        · simp
        · intro i h1 h2
          have hi : i < cs.length := by simpa using h2
          simp only [List.getElem_map, List.getElem_range]
          rw [RW.getD_lt hi]
      refine ⟨lc, D, _, _, rfl, rfl, g4.lst k2, e4, by simp; exact sized (by omega), fun lt nlt => ?_⟩
      have g5 : Gr K H4 (upd H4 lt (.lst (cs.map V.int ++ (cs.map (· + g)).map V.int))) := Ge.new nlt
      have h5 : upd H4 lt (.lst (cs.map V.int ++ (cs.map (· + g)).map V.int)) lt = some (.lst ((cs ++ cs.map (· + g)).map V.int)) := by rw [upd_same, List.map_append]
      have ne5 := (dr.gr (g13.trans g4)).fresh nlt
      generalize upd H4 lt (.lst (cs.map V.int ++ (cs.map (· + g)).map V.int)) = H5 at g5 h5 ⊢
      have g15 := (g13.trans g4).trans g5
      have k15 := (g4.trans g5).lst k1
      have k25 := (g4.trans g5).lst k2
      have skip : ∀ (H' : Hp) (n' : Nat), Gd K d H5 H' → Dr H' d n' → n' ≤ n + 1 → tB { nx := fun _ H' => Q .non H', rt := Q } [some (.ref d), some (.ref tp), some (.ref lh), some (.ref lc), some (.int g), some (.ref lt), none] H' := fun H' n' gd dd hn' =>
        hB H' lh lc hs cs g _ n' ((Gd.of g15).trans gd) dd hn' (gd.lst ne1 k15) (gd.lst ne2 k25) ne1 ne2 c0 (by omega) (by omega) fun m => rfl
      have dr5 := dr.gr g15
      refine ⟨_, rfl, lt, _, rfl, .inl (.of h5), ?_⟩
      rw [List.length_map]
      refine ⟨_, _, rfl, rfl, _, rfl, iteD (fun e1 => ?_) (fun e1 => ifF (skip H5 n (Gd.refl _) dr5 (by omega)))⟩
      refine ⟨_, rfl, _, rfl, _, _, rfl, rfl, _, rfl, iteD (fun e2 => ?_) (fun e2 => ifF (skip H5 n (Gd.refl _) dr5 (by omega)))⟩
      refine ⟨_, rfl, lt, _, rfl, .of h5, by simp; omega, fun mx _ _ => ?_⟩
      refine ⟨_, _, rfl, rfl, _, rfl, iteD (fun e3 => ?_) (fun e3 => ifF (skip H5 n (Gd.refl _) dr5 (by omega)))⟩
      refine ⟨_, rfl, lt, _, rfl, .of h5, by simp; omega, fun mn _ _ => ?_⟩
      refine ⟨_, rfl, _, _, rfl, rfl, _, rfl, iteD (fun e4 => ?_) (fun e4 => ifF (skip H5 n (Gd.refl _) dr5 (by omega)))⟩
      refine ⟨_, rfl, d, 3, n, rfl, dr5, by omega, by omega, by omega, fun r H6 hr6 g6 d6 => ?_⟩
      refine ⟨rfl, _, rfl, iteD (fun e5 => ?_) (fun e5 => skip H6 (n + 1) g6 d6 (by omega))⟩
      refine ⟨_, rfl, _, rfl, _, _, rfl, rfl, .inl ⟨by omega, by omega⟩, by show 2 ≤ sizeLine; decide, fun u2 nu2 => ?_⟩
      have g7 : Gr K H6 (upd H6 u2 (.tup [.ref lt, .int (2 * g)])) := Ge.new nu2
      refine ⟨u2, _, rfl, .of upd_same, rfl, _, _, rfl, _, _, rfl, rfl, ?_⟩
      exact hB _ lh lt hs (cs ++ cs.map (· + g)) (2 * g) _ (n + 1) (((Gd.of g15).trans g6).gr g7) (d6.gr g7) (by omega) (g7.lst (g6.lst ne1 k15)) (g7.lst (g6.lst ne5 h5)) ne1 ne5 (by simp; omega) (by omega) (by simp; omega) fun m => RW.ev_double c0 m
end
end K17
set_option linter.all false
/-! Rows' mathematics, N: the law's own gaps. -/
namespace RW
theorem gap_loop {f g : Nat → Int} {M N P best : Nat} {G1 G2 : Int} (hM : 0 < M) (hf : Gains f M G1 N) (hg : Gains g M G2 N) (hle : G1 ≤ G2) (hP : N + M ≤ P) (h1 : ∀ x, x ≤ P → f x ≤ g (x + best)) (x : Nat) : f x ≤ g (x + best) := by
  induction x using Nat.strongRecOn with
  | _ x ih =>
    by_cases z : x ≤ P
    · exact h1 x z
    · have i := ih (x - M) (by omega)
      have a := hf (x - M) (by omega)
      have b := hg (x - M + best) (by omega)
      rw [show x - M + M = x by omega] at a
      rw [show x - M + best + M = x + best by omega] at b
      omega
/-- two rows at the product of their lengths -/
theorem pair_gains {hs cs hs' cs' : List Int} {g g' : Int} (h0 : 0 < cs.length) (h1 : 0 < cs'.length) :
    Gains (ev ⟨hs, cs, g⟩) (cs.length * cs'.length) (cs'.length * g) (hs.length + hs'.length) ∧ Gains (ev ⟨hs', cs', g'⟩) (cs.length * cs'.length) (cs.length * g') (hs.length + hs'.length) := by
  have a : Gains (ev ⟨hs, cs, g⟩) cs.length g hs.length := ev_gains (t := ⟨hs, cs, g⟩) h0
  have b : Gains (ev ⟨hs', cs', g'⟩) cs'.length g' hs'.length := ev_gains (t := ⟨hs', cs', g'⟩) h1
  refine ⟨fun n hn => a.mul' cs'.length n (by omega), fun n hn => ?_⟩
  rw [Nat.mul_comm]
  exact b.mul' cs.length n (by omega)
/-- .. and at their least common multiple -/
theorem lcm_gains {hs cs hs' cs' : List Int} {g g' : Int} (h0 : 0 < cs.length) (h1 : 0 < cs'.length) : ∃ k k' : Nat, Nat.lcm cs.length cs'.length = cs.length * k ∧ Nat.lcm cs.length cs'.length = cs'.length * k' ∧
    Gains (ev ⟨hs, cs, g⟩) (Nat.lcm cs.length cs'.length) (k * g) hs.length ∧ Gains (ev ⟨hs', cs', g'⟩) (Nat.lcm cs.length cs'.length) (k' * g') hs'.length := by
  obtain ⟨k, hk⟩ := Nat.dvd_lcm_left cs.length cs'.length
  obtain ⟨k', hk'⟩ := Nat.dvd_lcm_right cs.length cs'.length
  have a : Gains (ev ⟨hs, cs, g⟩) cs.length g hs.length := ev_gains (t := ⟨hs, cs, g⟩) h0
  have b : Gains (ev ⟨hs', cs', g'⟩) cs'.length g' hs'.length := ev_gains (t := ⟨hs', cs', g'⟩) h1
  refine ⟨k, k', hk, hk', ?_, ?_⟩
  · rw [hk]; exact a.mul' k
  · rw [hk']; exact b.mul' k'
theorem lcm_le {c c' k k' : Nat} {g g' : Int} (h0 : 0 < c) (h1 : 0 < c') (hk : Nat.lcm c c' = c * k) (hk' : Nat.lcm c c' = c' * k') (h : g * c' ≤ g' * c) : (k : Int) * g ≤ k' * g' := by
  have e : c * k = c' * k' := hk.symm.trans hk'
  have e' : (c : Int) * k = c' * k' := by rw [← Int.natCast_mul, ← Int.natCast_mul, e]
  -- multiply by c * c'
  have h2 : (g * c') * k ≤ (g' * c) * k := Int.mul_le_mul_of_nonneg_right h (by omega)
  have e3 : (g' * c) * k = c' * (k' * g') := by
    rw [Int.mul_assoc, e', Int.mul_comm g', Int.mul_assoc]
  have e4 : (g * c') * k = c' * (k * g) := by
    rw [Int.mul_comm g, Int.mul_assoc, Int.mul_comm g]
  rw [e3, e4] at h2
  exact Int.le_of_mul_le_mul_left h2 (by omega)
end RW
set_option Elab.async false
set_option linter.all false
set_option maxRecDepth 100000
set_option pp.maxSteps 900
set_option maxHeartbeats 4000000
namespace K17
open PySem PySem.Spec PyProof.Rows L2 LamX NdefX
section
variable {P : Program} {w : World} {K : PySem.W.Frag} {mg : Str → Option Value} {base : Heap}
/-- small own rows -/
structure Small (hs cs : List Int) (g : Int) : Prop where
  c0 : 0 < cs.length
  h10 : hs.length ≤ 10
  c10 : cs.length ≤ 10
  h12 : ∀ x ∈ hs, -12 ≤ x ∧ x ≤ 12
  c12 : ∀ x ∈ cs, -12 ≤ x ∧ x ≤ 12
  g12 : -12 ≤ g ∧ g ≤ 12
theorem Drawn.small {hs cs : List Int} {g : Int} (h : Drawn hs cs g) (c0 : 0 < cs.length) : Small hs cs g := ⟨c0, by have := h.h4; omega, by have := h.c4; omega, h.h12, h.c12, h.g12⟩
theorem Risen.small {hs cs : List Int} {g first : Int} (h : Risen hs cs g first) : Small hs cs g :=
  ⟨h.c0, by have := h.h3; omega, by have := h.c3; omega, fun x hx => by have := h.h12 x hx; omega, fun x hx => by have := h.c12 x hx; omega, by have := h.g12; omega⟩
theorem sc_law_gap_up : FnScope ["_law_one", "_law_other", "_law_last_place", "_law_place"] ["_law_one", "_law_other"] (defScope (topS 91)) := ⟨rfl, rfl, rfl, by decide +kernel, rfl, by decide +kernel, by decide +kernel⟩
def spLawGapUp (K : PySem.W.Frag) : Sp := fun vs H Q _ => ∃ (v v' : V) (hs cs : List Int) (g : Int) (hs' cs' : List Int) (g' : Int), vs = [v, v'] ∧ OwnR H v hs cs g ∧ OwnR H v' hs' cs' g' ∧ Small hs cs g ∧ Small hs' cs' g' ∧
  (Faster (tri hs cs g) (tri hs' cs' g') → ∀ H', Gr K H H' → Q .non H') ∧ (NotFaster (tri hs cs g) (tri hs' cs' g') → ∀ H' m, Gr K H H' → IsSup (tri hs cs g) (tri hs' cs' g') m → Q (.int m) H')
theorem ok_law_gap_up (X : Txt K mg) : Ok P w K mg base CX0 3 "_law_gap_up" ["_law_one", "_law_other"] (spLawGapUp K) := by
  refine ok_def0 X 73 rfl sc_law_gap_up (by decide +kernel) (fun vs H Q E h => ?_) (fun _ _ _ _ _ _ us hl => match us, hl with | [_, _], _ => rfl) (fun f cdv A outer s H vs Q E hr h => ?_)
  · obtain ⟨v, v', hs, cs, g, hs', cs', g', rfl, _⟩ := h; rfl
  · obtain ⟨v, v', hs, cs, g, hs', cs', g', rfl, ow, ow', sm, sm', fin1, fin2⟩ := h
    refine ⟨_, (pss_cons (ps_if (pt_cmpR op_gt (pe_op op_mul (pe_ix (ixT_K (K := K)) (pv 0) pe_int (fun _ _ => rfl)) (pe_callB (len_K (K := K)) (by rfl) X.b_len (by decide +kernel) (pa_cons (pe_ix (ixT_K (K := K)) (pv 1) pe_int (fun _ _ => rfl)) pa_nil))) (pe_op op_mul (pe_ix (ixT_K (K := K)) (pv 1) pe_int (fun _ _ => rfl)) (pe_callB (len_K (K := K)) (by rfl) X.b_len (by decide +kernel) (pa_cons (pe_ix (ixT_K (K := K)) (pv 0) pe_int (fun _ _ => rfl)) pa_nil))) (nomark _))
  (pss_one (ps_ret pe_non))
  pss_nil)
  (pss_cons (ps_set (i := 2) sc_law_gap_up.nd rfl (.inl rfl) (pe_op op_add (pe_callB (call_max2 rfl) (by rfl) X.b_max (by decide +kernel) (pa_cons (pe_callB (len_K (K := K)) (by rfl) X.b_len (by decide +kernel) (pa_cons (pe_ix (ixT_K (K := K)) (pv 0) pe_int (fun _ _ => rfl)) pa_nil)) (pa_cons (pe_callB (len_K (K := K)) (by rfl) X.b_len (by decide +kernel) (pa_cons (pe_ix (ixT_K (K := K)) (pv 1) pe_int (fun _ _ => rfl)) pa_nil)) pa_nil))) (pe_o (ok_law_multiple X) hr pass0 (pa_cons (pe_callB (len_K (K := K)) (by rfl) X.b_len (by decide +kernel) (pa_cons (pe_ix (ixT_K (K := K)) (pv 0) pe_int (fun _ _ => rfl)) pa_nil)) (pa_cons (pe_callB (len_K (K := K)) (by rfl) X.b_len (by decide +kernel) (pa_cons (pe_ix (ixT_K (K := K)) (pv 1) pe_int (fun _ _ => rfl)) pa_nil)) pa_nil)))))
  (pss_one (ps_ret (pe_callB (max_K (K := K)) (by rfl) X.b_max (by decide +kernel) (pa_cons (pe_lc (own := [("_law_place", 3)]) (g := (gName 3)) (tt := tYes) rfl sc_law_gap_up.nd (pi_range1 (by rfl) X.b_range (pa_cons (pv 2) pa_nil)) (blkOk_by (N := ["_law_one", "_law_other", "_law_last_place", "_law_place"]) (sc := defScope (topS 91)) (by decide +kernel)) (fun _ _ _ _ _ => (pg_name (i := 3) sc_law_gap_up.nd rfl (.inl rfl))) (fun _ _ _ _ _ => pts_nil) (fun _ _ _ _ _ => (pe_op op_sub (pe_o (ok_law_at X) hr pass0 (pa_cons (pv 0) (pa_cons (pv 3) pa_nil))) (pe_o (ok_law_at X) hr pass0 (pa_cons (pv 1) (pa_cons (pv 3) pa_nil)))))) pa_nil)))))), ?_⟩
    obtain ⟨tp, a, b, rfl, w1, w2, w3, c0, cz, hz⟩ := id ow
    obtain ⟨tp', a', b', rfl, w1', w2', w3', c0', cz', hz'⟩ := id ow'
    have g12 := sm.g12
    have g12' := sm'.g12
    refine ⟨_, rfl, tp, _, _, _, rfl, rfl, .of w1, rfl, _, rfl, tp', _, _, _, rfl, rfl, .of w1', rfl, b', _, rfl, .inl (.of w3'), ?_⟩
    rw [List.length_map]
    refine ⟨_, _, rfl, rfl, .inl ⟨by omega, by omega⟩, ?_⟩
    refine ⟨_, rfl, tp', _, _, _, rfl, rfl, .of w1', rfl, _, rfl, tp, _, _, _, rfl, rfl, .of w1, rfl, b, _, rfl, .inl (.of w3), ?_⟩
    rw [List.length_map]
    refine ⟨_, _, rfl, rfl, .inl ⟨by omega, by omega⟩, _, _, rfl, rfl, _, rfl, iteD (fun e => ?_) (fun e => ?_)⟩
    · have e : g' * (cs.length : Int) < g * (cs'.length : Int) := e
      obtain ⟨p1, p2⟩ := RW.pair_gains (hs := hs) (cs := cs) (hs' := hs') (cs' := cs') (g := g) (g' := g') c0 c0'
      exact fin1 ⟨_, _, _, _, Nat.mul_pos c0 c0', p1, p2, by rw [Int.mul_comm, Int.mul_comm (cs'.length : Int)]; exact e⟩ H (Ge.refl _)
    · have e : ¬ g' * (cs.length : Int) < g * (cs'.length : Int) := e
      obtain ⟨k, k', hk, hk', p1, p2⟩ := RW.lcm_gains (hs := hs) (cs := cs) (hs' := hs') (cs' := cs') (g := g) (g' := g') c0 c0'
      have hle := RW.lcm_le c0 c0' hk hk' (show g * (cs'.length : Int) ≤ g' * (cs.length : Int) by omega)
      have l0 : 0 < Nat.lcm cs.length cs'.length := Nat.lcm_pos c0 c0'
      have l1 : Nat.lcm cs.length cs'.length ≤ 100 := by
        have : Nat.lcm cs.length cs'.length ≤ cs.length * cs'.length := Nat.le_of_dvd (Nat.mul_pos c0 c0') (Nat.lcm_dvd_mul _ _)
        have : cs.length * cs'.length ≤ 10 * 10 := Nat.mul_le_mul sm.c10 sm'.c10
        omega
      have h10 := sm.h10
      have h10' := sm'.h10
      have c10 := sm.c10
      have c10' := sm'.c10
      obtain ⟨N, eN⟩ : ∃ N, N = max hs.length hs'.length := ⟨_, rfl⟩
      have p1 : RW.Gains (tri hs cs g) (Nat.lcm cs.length cs'.length) (k * g) N := fun n hn => p1 n (by omega)
      have p2 : RW.Gains (tri hs' cs' g') (Nat.lcm cs.length cs'.length) (k' * g') N := fun n hn => p2 n (by omega)
      refine ⟨_, rfl, tp, _, _, _, rfl, rfl, .of w1, rfl, a, _, rfl, .inl (.of w2), ?_⟩
      rw [List.length_map]
      refine ⟨_, rfl, tp', _, _, _, rfl, rfl, .of w1', rfl, a', _, rfl, .inl (.of w2'), ?_⟩
      rw [List.length_map]
      refine ⟨_, _, rfl, ?_⟩
      rw [show (if ((hs'.length : Nat) : Int) > ((hs.length : Nat) : Int) then ((hs'.length : Nat) : Int) else ((hs.length : Nat) : Int)) = (N : Int) by split <;> omega]
      refine ⟨_, rfl, tp, _, _, _, rfl, rfl, .of w1, rfl, b, _, rfl, .inl (.of w3), ?_⟩
      rw [List.length_map]
      refine ⟨_, rfl, tp', _, _, _, rfl, rfl, .of w1', rfl, b', _, rfl, .inl (.of w3'), ?_⟩
      rw [List.length_map]
      refine ⟨cs.length, cs'.length, rfl, c0, c0', by omega, by omega, _, _, rfl, rfl, ?_⟩
      refine ⟨_, rfl, ((N + Nat.lcm cs.length cs'.length : Nat) : Int), rfl, by omega, by omega, fun D hD => ?_⟩
      rw [Int.toNat_natCast]
      refine lc_rng (K := K) (F := fun i => V.int (tri hs cs g i - tri hs' cs' g' i)) hD (by omega) (fun i H4 Q4 hi g4 q4 => ?_) (fun H4 g4 h4 => ?_)
      · refine ⟨rfl, _, rfl, _, rfl, _, hs, cs, g, i, ?_, ow.gr g4, by omega, _, rfl, _, rfl, _, hs', cs', g', i, ?_, ow'.gr g4, by omega, _, _, rfl, rfl, q4 _ (Ge.refl _)⟩
        · show [V.ref tp, V.int (0 + (i : Int))] = _
          rw [Int.zero_add]
        · show [V.ref tp', V.int (0 + (i : Int))] = _
          rw [Int.zero_add]
      · have e4 : H4 D = some (.lst (((List.range (N + Nat.lcm cs.length cs'.length)).map fun i => tri hs cs g i - tri hs' cs' g' i).map V.int)) := by rw [h4, List.map_map]; rfl
        refine ⟨D, _, rfl, .of e4, by simp; omega, fun m hm hle2 => fin2 ⟨_, N, _, _, l0, p1, p2, hle⟩ H4 m g4 ⟨?_, fun n => ?_⟩⟩
        · obtain ⟨i, hi, e⟩ := List.mem_map.mp hm
          exact ⟨i, e.symm⟩
        · exact sup_bounded l0 p1 p2 hle (fun i hi => hle2 _ (List.mem_map.mpr ⟨i, List.mem_range.mpr hi, rfl⟩)) n
end
end K17
set_option linter.all false
/-! Rows' mathematics, O: the law's own gaps across. -/
namespace RW
theorem flat_vals {f : Nat → Int} {c h : Nat} (hc : 0 < c) (hf : Gains f c 0 h) (y : Nat) : ∃ y', y' < h + c ∧ f y = f y' := by
  induction y using Nat.strongRecOn with
  | _ y ih =>
    by_cases z : y < h + c
    · exact ⟨y, z, rfl⟩
    · obtain ⟨y', a, b⟩ := ih (y - c) (by omega)
      have e := hf (y - c) (by omega)
      rw [show y - c + c = y by omega] at e
      exact ⟨y', a, by omega⟩
theorem Gains.from {f : Nat → Int} {p N : Nat} {G : Int} (h : Gains f p G N) (d : Nat) : Gains (fun n => f (n + d)) p G N := fun n hn => by
  show f (n + p + d) = f (n + d) + G
  rw [show n + p + d = n + d + p by omega]
  exact h (n + d) (by omega)
theorem gap_none_fast {f g : Nat → Int} {M N : Nat} {G1 G2 : Int} (h1 : Gains f M G1 N) (h2 : Gains g M G2 N) (h : G2 < G1) : GapIs f g none := fun d => by
  obtain ⟨n, hn⟩ := faster_by h1 (h2.from d) h 0
  exact ⟨n, by simpa using hn⟩
/-- a row that counts has at least k at its head's end and k cycles -/
theorem counts_up {f : Nat → Int} {c h : Nat} {g : Int} (hf : Gains f c g h) (hg : 0 < g) (h0 : 0 ≤ f h) (k : Nat) : (k : Int) ≤ f (h + k * c) := by
  have := hf.many k (Nat.le_refl h)
  rw [this]
  have : (k : Int) * 1 ≤ k * g := Int.mul_le_mul_of_nonneg_left (by omega) (by omega)
  omega
end RW
set_option Elab.async false
set_option linter.all false
set_option maxRecDepth 100000
set_option pp.maxSteps 900
set_option maxHeartbeats 4000000
namespace K17
open PySem PySem.Spec PyProof.Rows L2 LamX NdefX
section
variable {P : Program} {w : World} {K : PySem.W.Frag} {mg : Str → Option Value} {base : Heap}
theorem Small.val {hs cs : List Int} {g : Int} (s : Small hs cs g) {n : Nat} (hn : n < hs.length + cs.length) : -12 ≤ tri hs cs g n ∧ tri hs cs g n ≤ 12 := by
  by_cases z : n < hs.length
  · have e : tri hs cs g n = hs.getD n 0 := RW.ev_low (t := ⟨hs, cs, g⟩) z
    rw [e, RW.getD_lt z]
    exact s.h12 _ (List.getElem_mem _)
  · have e : tri hs cs g n = cs.getD (n - hs.length) 0 := by
      show (if n < hs.length then _ else RW.evc cs g (n - hs.length)) = _
      rw [if_neg z]
      unfold RW.evc
      rw [Nat.mod_eq_of_lt (by omega), Nat.div_eq_of_lt (by omega)]
      simp
    rw [e, RW.getD_lt (by omega)]
    exact s.c12 _ (List.getElem_mem _)
theorem sc_law_gap_across : FnScope ["_law_one", "_law_other", "_law_rise", "_law_size", "_law_most", "_law_place", "_law_best", "_law_at_here", "_law_delay"] ["_law_one", "_law_other"] (defScope (topS 93)) := ⟨rfl, rfl, rfl, by decide +kernel, rfl, by decide +kernel, by decide +kernel⟩
def spLawGapAcross (K : PySem.W.Frag) : Sp := fun vs H Q _ => ∃ (v v' : V) (hs cs : List Int) (g : Int) (hs' cs' : List Int) (g' : Int), vs = [v, v'] ∧ OwnR H v hs cs g ∧ OwnR H v' hs' cs' g' ∧ Small hs cs g ∧ Small hs' cs' g' ∧
  Rising (tri hs cs g) ∧ Rising (tri hs' cs' g') ∧ ∀ H' o, Gr K H H' → RW.GapIs (tri hs cs g) (tri hs' cs' g') o → Q (oV o) H'
theorem ok_law_gap_across (X : Txt K mg) : Ok P w K mg base CX0 3 "_law_gap_across" ["_law_one", "_law_other"] (spLawGapAcross K) := by
  refine ok_def0 X 75 rfl sc_law_gap_across (by decide +kernel) (fun vs H Q E h => ?_) (fun _ _ _ _ _ _ us hl => match us, hl with | [_, _], _ => rfl) (fun f cdv A outer s H vs Q E hr h => ?_)
  · obtain ⟨v, v', hs, cs, g, hs', cs', g', rfl, _⟩ := h; rfl
  · obtain ⟨v, v', hs, cs, g, hs', cs', g', rfl, ow, ow', sm, sm', ri, ri', fin⟩ := h
    obtain ⟨tp, a, b, rfl, w1, w2, w3, c0, cz, hz⟩ := id ow
    obtain ⟨tp', a', b', rfl, w1', w2', w3', c0', cz', hz'⟩ := id ow'
    have g12 := sm.g12
    have g12' := sm'.g12
    have h10 := sm.h10
    have h10' := sm'.h10
    have c10 := sm.c10
    have c10' := sm'.c10
    obtain ⟨k, k', hk, hk', p1, p2⟩ := RW.lcm_gains (hs := hs) (cs := cs) (hs' := hs') (cs' := cs') (g := g) (g' := g') c0 c0'
    have q1 : RW.Gains (tri hs cs g) cs.length g hs.length := RW.ev_gains (t := ⟨hs, cs, g⟩) c0
    have q2 : RW.Gains (tri hs' cs' g') cs'.length g' hs'.length := RW.ev_gains (t := ⟨hs', cs', g'⟩) c0'
    have l0 : 0 < Nat.lcm cs.length cs'.length := Nat.lcm_pos c0 c0'
    have l1 : Nat.lcm cs.length cs'.length ≤ 100 := by
      have : Nat.lcm cs.length cs'.length ≤ cs.length * cs'.length := Nat.le_of_dvd (Nat.mul_pos c0 c0') (Nat.lcm_dvd_mul _ _)
      have : cs.length * cs'.length ≤ 10 * 10 := Nat.mul_le_mul sm.c10 sm'.c10
      omega
    obtain ⟨M, eM⟩ : ∃ M, M = Nat.lcm cs.length cs'.length := ⟨_, rfl⟩
    rw [← eM] at p1 p2 l0 l1
    have restE : ∃ t, PSs (cxOf CX0 P w K mg base ["_law_one", "_law_other", "_law_rise", "_law_size", "_law_most", "_law_place", "_law_best", "_law_at_here", "_law_delay"] "_law_gap_across" (defScope (topS 93)) f cdv A outer s H E).nox ((defBody (topS 93)).drop 5) t ∧
        ∀ (H' : Hp) (j2 j4 : Option V) (D0 Pm pl : Nat), Gr K H H' → g * cs'.length ≤ g' * cs.length → D0 ≤ 2000000 → (∀ x, x ≤ Pm → tri hs cs g x ≤ tri hs' cs' g' (x + D0)) → pl ≤ Pm → Pm ≤ 1000000 → hs.length + hs'.length + M ≤ pl →
          t { nx := fun _ H' => Q .non H', rt := Q } [some (.ref tp), some (.ref tp'), j2, some (.int M), j4, some (.int pl), some (.int 0), none, none] H' := by
      refine ⟨_, (pss_cons (ps_for PassesOwn.never rfl (pi_range1 (by rfl) X.b_range (pa_cons (pe_op op_add (pv 5) pe_int) pa_nil)) (pg_name (i := 7) sc_law_gap_across.nd rfl (.inl rfl))
  (pss_cons (ps_set (i := 8) sc_law_gap_across.nd rfl (.inl rfl) (pv 6))
  (pss_cons (ps_while PassesOwn.never (pt_cmpR op_lt (pe_o (ok_law_at X) hr pass0 (pa_cons (pv 1) (pa_cons (pe_op op_add (pv 7) (pv 8)) pa_nil))) (pe_o (ok_law_at X) hr pass0 (pa_cons (pv 0) (pa_cons (pv 7) pa_nil))) (nomark _))
  (pss_one (ps_set (i := 8) sc_law_gap_across.nd rfl (.inl rfl) (pe_op op_add (pv 8) pe_int))))
  (pss_one (ps_set (i := 6) sc_law_gap_across.nd rfl (.inl rfl) (pe_callB (call_max2 rfl) (by rfl) X.b_max (by decide +kernel) (pa_cons (pv 6) (pa_cons (pv 8) pa_nil))))))))
  (pss_one (ps_ret (pv 6)))), ?_⟩
      intro H' j2 j4 D0 Pm pl gr hrise hD0 hD hpl hPm hpl2
      have hle := RW.lcm_le c0 c0' hk hk' hrise
      have ow2 := ow.gr gr
      have ow2' := ow'.gr gr
      refine ⟨_, rfl, _, _, rfl, rfl, ((pl + 1 : Nat) : Int), rfl, by omega, by omega, ?_⟩
      rw [Int.toNat_natCast]
      refine for_any (n := pl + 1) (fun i σ H2 => H2 = H' ∧ ∃ (best : Nat) (j7 j8 : Option V), σ = [some (.ref tp), some (.ref tp'), j2, some (.int M), j4, some (.int pl), some (.int best), j7, j8] ∧ best ≤ D0 ∧ (∀ x, x < i → tri hs cs g x ≤ tri hs' cs' g' (x + best)) ∧
        (best = 0 ∨ ∃ x, ∀ d', d' < best → tri hs' cs' g' (x + d') < tri hs cs g x))
        ⟨rfl, 0, none, none, rfl, Nat.zero_le _, fun x hx => by omega, .inl rfl⟩ (fun i σ H2 hi h => hi) (fun σ H2 h => Nat.le_refl _) (fun i x σ H2 H3 hi h hy => ?_) (fun σ H2 h => ?_)
      · obtain ⟨rfl, best, j7, j8, rfl, hb1, hb2, hb3⟩ := h
        obtain ⟨rfl, rfl⟩ := hy
        rw [show (0 : Int) + (i : Int) = (i : Int) by omega]
        refine ⟨_, rfl, ?_⟩
        refine ⟨fun μ σ H4 => H4 = H3 ∧ ∃ dl : Nat, σ = [some (.ref tp), some (.ref tp'), j2, some (.int M), j4, some (.int pl), some (.int best), some (.int i), some (.int dl)] ∧ best ≤ dl ∧ dl ≤ D0 ∧ (dl = best ∨ ∀ d', d' < dl → tri hs' cs' g' (i + d') < tri hs cs g i) ∧ μ = D0 + 1 - dl, ⟨_, rfl, best, rfl, Nat.le_refl _, hb1, .inl rfl, rfl⟩, fun μ σ H4 hW => ?_⟩
        obtain ⟨rfl, dl, rfl, hd1, hd2, hd3, rfl⟩ := hW
        refine ⟨_, rfl, _, rfl, _, rfl, _, _, rfl, rfl, _, hs', cs', g', i + dl, rfl, ow2', by omega, _, rfl, _, rfl, _, hs, cs, g, i, rfl, ow2, by omega, _, _, rfl, rfl, _, rfl, iteD (fun e => ?_) (fun e => ?_)⟩
        · have e : tri hs' cs' g' (i + dl) < tri hs cs g i := e
          have lt : dl < D0 := by
            apply Classical.byContradiction
            intro z
            have := hD i (by omega)
            rw [show D0 = dl by omega] at this
            omega
          refine ⟨_, fun σ' H4 z => ⟨D0 + 1 - (dl + 1), by omega, z⟩, ?_⟩
          refine ⟨_, rfl, _, _, rfl, rfl, rfl, dl + 1, rfl, by omega, by omega, .inr fun d' hd' => ?_, rfl⟩
          have : tri hs' cs' g' (i + d') ≤ tri hs' cs' g' (i + dl) := ri'.2.le (by omega)
          omega
        · have e : ¬ tri hs' cs' g' (i + dl) < tri hs cs g i := e
          refine ⟨_, rfl, _, rfl, _, _, rfl, ?_⟩
          rw [show (if (dl : Int) > (best : Int) then (dl : Int) else (best : Int)) = (dl : Int) by split <;> omega]
          refine ⟨rfl, dl, _, _, rfl, hd2, fun x hx => ?_, ?_⟩
          · by_cases z : x = i
            · subst z; omega
            · have a1 := hb2 x (by omega)
              have a2 : tri hs' cs' g' (x + best) ≤ tri hs' cs' g' (x + dl) := ri'.2.le (by omega)
              omega
          · rcases hd3 with z | z
            · rw [z]; exact hb3
            · exact .inr ⟨i, z⟩
      · obtain ⟨rfl, best, j7, j8, rfl, hb1, hb2, hb3⟩ := h
        refine ⟨_, rfl, ?_⟩
        refine fin H2 (some best) gr ⟨fun x => ?_, fun d' hd' => ?_⟩
        · exact RW.gap_loop (N := hs.length + hs'.length) l0 (fun n hn => p1 n (by omega)) (fun n hn => p2 n (by omega)) hle hpl2 (fun x hx => hb2 x (by omega)) x
        · rcases hb3 with z | ⟨x, hx⟩
          · omega
          · exact ⟨x, hx d' hd'⟩
    obtain ⟨tE, htE, hE⟩ := restE
    have restD : ∃ t, PSs (cxOf CX0 P w K mg base ["_law_one", "_law_other", "_law_rise", "_law_size", "_law_most", "_law_place", "_law_best", "_law_at_here", "_law_delay"] "_law_gap_across" (defScope (topS 93)) f cdv A outer s H E).nox ((defBody (topS 93)).drop 3) t ∧
        ∀ (H' : Hp) (j2 j4 : Option V) (D0 : Nat), Gr K H H' → g * cs'.length ≤ g' * cs.length → D0 ≤ 2000000 → (∀ x, x ≤ hs.length + hs'.length + M + 25 * cs.length + 1 → tri hs cs g x ≤ tri hs' cs' g' (x + D0)) →
          t { nx := fun _ H' => Q .non H', rt := Q } [some (.ref tp), some (.ref tp'), j2, some (.int M), j4, none, none, none, none] H' := by
      refine ⟨_, (pss_cons (ps_par (i := 5) (j := 6) (by rfl) sc_law_gap_across.nd rfl rfl (by decide) rfl rfl (pa_cons (pe_op op_add (pe_op op_add (pe_callB (len_K (K := K)) (by rfl) X.b_len (by decide +kernel) (pa_cons (pe_ix (ixT_K (K := K)) (pv 0) pe_int (fun _ _ => rfl)) pa_nil)) (pe_callB (len_K (K := K)) (by rfl) X.b_len (by decide +kernel) (pa_cons (pe_ix (ixT_K (K := K)) (pv 1) pe_int (fun _ _ => rfl)) pa_nil))) (pv 3)) (pa_cons pe_int pa_nil)) (by rfl))
  (pss_cons (ps_while PassesOwn.never (PW.pt (pw_and (pt_cmpR op_gt (pe_ix (ixT_K (K := K)) (pv 0) pe_int (fun _ _ => rfl)) pe_int (nomark _)) (pw_and1 (pt_cmpR op_le (pe_o (ok_law_at X) hr pass0 (pa_cons (pv 0) (pa_cons (pe_op op_sub (pv 5) (pv 3)) pa_nil))) (pe_o (ok_law_at X) hr pass0 (pa_cons (pv 1) (pa_cons (pe_op op_add (pe_callB (len_K (K := K)) (by rfl) X.b_len (by decide +kernel) (pa_cons (pe_ix (ixT_K (K := K)) (pv 1) pe_int (fun _ _ => rfl)) pa_nil)) (pe_callB (len_K (K := K)) (by rfl) X.b_len (by decide +kernel) (pa_cons (pe_ix (ixT_K (K := K)) (pv 1) pe_int (fun _ _ => rfl)) pa_nil))) pa_nil))) (nomark _)))))
  (pss_one (ps_set (i := 5) sc_law_gap_across.nd rfl (.inl rfl) (pe_op op_add (pv 5) pe_int))))
  htE)), ?_⟩
      intro H' j2 j4 D0 gr hrise hD0 hD
      obtain ⟨S, eS⟩ : ∃ S, S = hs.length + hs'.length + M := ⟨_, rfl⟩
      obtain ⟨Pm, ePm⟩ : ∃ Pm, Pm = S + 25 * cs.length + 1 := ⟨_, rfl⟩
      have hD : ∀ x, x ≤ Pm → tri hs cs g x ≤ tri hs' cs' g' (x + D0) := fun x hx => hD x (by omega)
      have hle := RW.lcm_le c0 c0' hk hk' hrise
      have ow2 := ow.gr gr
      have ow2' := ow'.gr gr
      have v1 := gr.tup w1
      have v1' := gr.tup w1'
      refine ⟨_, rfl, tp, _, _, _, rfl, rfl, .of v1, rfl, a, _, rfl, .inl (.of (gr.lst w2)), ?_⟩
      rw [List.length_map]
      refine ⟨_, rfl, tp', _, _, _, rfl, rfl, .of v1', rfl, a', _, rfl, .inl (.of (gr.lst w2')), ?_⟩
      rw [List.length_map]
      refine ⟨_, _, rfl, rfl, _, rfl, _, _, rfl, rfl, _, _, rfl, ?_⟩
      refine ⟨fun μ σ H2 => H2 = H' ∧ ∃ pl : Nat, σ = [some (.ref tp), some (.ref tp'), j2, some (.int M), j4, some (.int pl), some (.int 0), none, none] ∧ S ≤ pl ∧ pl ≤ Pm ∧ μ = Pm + 1 - pl, ⟨_, rfl, S, by rw [eS]; rfl, Nat.le_refl _, by omega, rfl⟩, fun μ σ H2 hW => ?_⟩
      obtain ⟨rfl, pl, rfl, hpl1, hpl2, rfl⟩ := hW
      refine ⟨_, rfl, tp, _, _, _, rfl, rfl, .of v1, rfl, _, _, rfl, rfl, _, rfl, iteD (fun eg => ?_) (fun eg => ?_)⟩
      · refine ⟨_, rfl, _, rfl, _, rfl, _, _, rfl, rfl, _, hs, cs, g, pl - M, ?_, ow2, by omega, ?_⟩
        · show [V.ref tp, V.int ((pl : Int) - (M : Int))] = [V.ref tp, V.int ((pl - M : Nat) : Int)]
          rw [show (pl : Int) - (M : Int) = ((pl - M : Nat) : Int) by omega]
        refine ⟨_, rfl, _, rfl, tp', _, _, _, rfl, rfl, .of v1', rfl, a', _, rfl, .inl (.of (gr.lst w2')), ?_⟩
        rw [List.length_map]
        refine ⟨_, rfl, tp', _, _, _, rfl, rfl, .of v1', rfl, b', _, rfl, .inl (.of (gr.lst w3')), ?_⟩
        rw [List.length_map]
        refine ⟨_, _, rfl, rfl, _, hs', cs', g', hs'.length + cs'.length, rfl, ow2', by omega, _, _, rfl, rfl, _, rfl, iteD (fun e => ?_) (fun e => ?_)⟩
        · have e : tri hs cs g (pl - M) ≤ tri hs' cs' g' (hs'.length + cs'.length) := e
          have eg : (0 : Int) < g := eg
          have b1 := q2 hs'.length (Nat.le_refl _)
          have b2 := sm'.val (n := hs'.length) (by omega)
          have lt : pl < Pm := by
            apply Classical.byContradiction
            intro z
            have z1 := RW.counts_up q1 eg (Int.le_trans ri.1 (ri.2.le (Nat.zero_le _))) 25
            have z2 : tri hs cs g (hs.length + 25 * cs.length) ≤ tri hs cs g (pl - M) := ri.2.le (by omega)
            omega
          refine ⟨_, fun σ' H3 z => ⟨Pm + 1 - (pl + 1), by omega, z⟩, ?_⟩
          exact ⟨_, rfl, _, _, rfl, rfl, rfl, pl + 1, rfl, by omega, by omega, rfl⟩
        · exact hE H2 j2 j4 D0 Pm pl gr hrise hD0 hD hpl2 (by omega) (by omega)
      · exact ifF (hE H2 j2 j4 D0 Pm pl gr hrise hD0 hD hpl2 (by omega) (by omega))
    obtain ⟨tr, htr, hrest⟩ := restD
    refine ⟨_, (pss_cons (ps_par (i := 2) (j := 3) (by rfl) sc_law_gap_across.nd rfl rfl (by decide) rfl rfl (pa_cons (pe_op op_sub (pe_op op_mul (pe_ix (ixT_K (K := K)) (pv 0) pe_int (fun _ _ => rfl)) (pe_callB (len_K (K := K)) (by rfl) X.b_len (by decide +kernel) (pa_cons (pe_ix (ixT_K (K := K)) (pv 1) pe_int (fun _ _ => rfl)) pa_nil))) (pe_op op_mul (pe_ix (ixT_K (K := K)) (pv 1) pe_int (fun _ _ => rfl)) (pe_callB (len_K (K := K)) (by rfl) X.b_len (by decide +kernel) (pa_cons (pe_ix (ixT_K (K := K)) (pv 0) pe_int (fun _ _ => rfl)) pa_nil)))) (pa_cons (pe_o (ok_law_multiple X) hr pass0 (pa_cons (pe_callB (len_K (K := K)) (by rfl) X.b_len (by decide +kernel) (pa_cons (pe_ix (ixT_K (K := K)) (pv 0) pe_int (fun _ _ => rfl)) pa_nil)) (pa_cons (pe_callB (len_K (K := K)) (by rfl) X.b_len (by decide +kernel) (pa_cons (pe_ix (ixT_K (K := K)) (pv 1) pe_int (fun _ _ => rfl)) pa_nil)) pa_nil))) pa_nil)) (by rfl))
  (pss_cons (ps_set (i := 4) sc_law_gap_across.nd rfl (.inl rfl) (pe_callB (max_K (K := K)) (by rfl) X.b_max (by decide +kernel) (pa_cons (pe_o (ok_law_upto X) hr pass0 (pa_cons (pv 1) (pa_cons (pe_op op_add (pe_callB (len_K (K := K)) (by rfl) X.b_len (by decide +kernel) (pa_cons (pe_ix (ixT_K (K := K)) (pv 1) pe_int (fun _ _ => rfl)) pa_nil)) (pe_callB (len_K (K := K)) (by rfl) X.b_len (by decide +kernel) (pa_cons (pe_ix (ixT_K (K := K)) (pv 1) pe_int (fun _ _ => rfl)) pa_nil))) pa_nil))) pa_nil)))
  (pss_cons (ps_if (PW.pt (pw_or (pt_cmpR op_gt (pv 2) pe_int (nomark _)) (pw_or1 (PW.pt (pw_and (pt_cmpR op_eq (pe_ix (ixT_K (K := K)) (pv 1) pe_int (fun _ _ => rfl)) pe_int (nomark _)) (pw_and1 (pt_cmpR op_gt (pe_callB (max_K (K := K)) (by rfl) X.b_max (by decide +kernel) (pa_cons (pe_o (ok_law_upto X) hr pass0 (pa_cons (pv 0) (pa_cons (pe_op op_add (pe_callB (len_K (K := K)) (by rfl) X.b_len (by decide +kernel) (pa_cons (pe_ix (ixT_K (K := K)) (pv 0) pe_int (fun _ _ => rfl)) pa_nil)) (pe_callB (len_K (K := K)) (by rfl) X.b_len (by decide +kernel) (pa_cons (pe_ix (ixT_K (K := K)) (pv 0) pe_int (fun _ _ => rfl)) pa_nil))) pa_nil))) pa_nil)) (pv 4) (nomark _))))))))
  (pss_one (ps_ret pe_non))
  pss_nil)
  htr))), ?_⟩
    refine ⟨_, rfl, tp, _, _, _, rfl, rfl, .of w1, rfl, _, rfl, tp', _, _, _, rfl, rfl, .of w1', rfl, b', _, rfl, .inl (.of w3'), ?_⟩
    rw [List.length_map]
    refine ⟨_, _, rfl, rfl, .inl ⟨by omega, by omega⟩, ?_⟩
    refine ⟨_, rfl, tp', _, _, _, rfl, rfl, .of w1', rfl, _, rfl, tp, _, _, _, rfl, rfl, .of w1, rfl, b, _, rfl, .inl (.of w3), ?_⟩
    rw [List.length_map]
    refine ⟨_, _, rfl, rfl, .inl ⟨by omega, by omega⟩, _, _, rfl, rfl, ?_⟩
    refine ⟨_, rfl, tp, _, _, _, rfl, rfl, .of w1, rfl, b, _, rfl, .inl (.of w3), ?_⟩
    rw [List.length_map]
    refine ⟨_, rfl, tp', _, _, _, rfl, rfl, .of w1', rfl, b', _, rfl, .inl (.of w3'), ?_⟩
    rw [List.length_map]
    refine ⟨cs.length, cs'.length, rfl, c0, c0', by omega, by omega, _, _, rfl, ?_⟩
    rw [← eM]
    -- most
    refine ⟨_, rfl, _, rfl, tp', _, _, _, rfl, rfl, .of w1', rfl, a', _, rfl, .inl (.of w2'), ?_⟩
    rw [List.length_map]
    refine ⟨_, rfl, tp', _, _, _, rfl, rfl, .of w1', rfl, b', _, rfl, .inl (.of w3'), ?_⟩
    rw [List.length_map]
    refine ⟨_, _, rfl, rfl, _, hs', cs', g', hs'.length + cs'.length, rfl, ow', by omega, fun H1 l1' g1 n1 hl1 => ?_⟩
    refine ⟨l1', _, rfl, .of hl1, by simp; omega, fun most hmost hmle => ?_⟩
    have mle : ∀ i, i < hs'.length + cs'.length → tri hs' cs' g' i ≤ most := fun i hi => hmle _ (List.mem_map.mpr ⟨i, List.mem_range.mpr hi, rfl⟩)
    obtain ⟨i0, hi0, ei0⟩ := List.mem_map.mp hmost
    have hi0 := List.mem_range.mp hi0
    have none_ : RW.GapIs (tri hs cs g) (tri hs' cs' g') none → Q .non H1 := fun z => fin H1 none g1 z
    refine ⟨_, rfl, _, _, rfl, rfl, _, rfl, iteD (fun e => ?_) (fun e => ?_)⟩
    · have e : (0 : Int) < g * cs'.length - g' * cs.length := e
      refine ifT ?_
      obtain ⟨u1, u2⟩ := RW.pair_gains (hs := hs) (cs := cs) (hs' := hs') (cs' := cs') (g := g) (g' := g') c0 c0'
      refine none_ (RW.gap_none_fast u1 u2 ?_)
      rw [Int.mul_comm, Int.mul_comm (cs'.length : Int)]
      omega
    · have e : ¬ (0 : Int) < g * cs'.length - g' * cs.length := e
      have f0 := ri.1
      have up : ∀ x, x ≤ 1000 → tri hs cs g x ≤ 100000 := fun x hx => by
        have a1 : tri hs cs g x ≤ tri hs cs g (hs.length + x * cs.length) := ri.2.le (by
          have : x * 1 ≤ x * cs.length := Nat.mul_le_mul_left _ c0
          omega)
        rw [q1.many x (Nat.le_refl _)] at a1
        have a2 := sm.val (n := hs.length) (by omega)
        have a3 : (x : Int) * g ≤ x * 12 := Int.mul_le_mul_of_nonneg_left (by omega) (by omega)
        omega
      refine ⟨_, rfl, tp', _, _, _, rfl, rfl, .of (g1.tup w1'), rfl, rfl, _, rfl, iteD (fun ez => ?_) (fun ez => ?_)⟩
      · have g0 : g' = 0 := V.int.inj ez
        subst g0
        refine ⟨_, rfl, _, rfl, tp, _, _, _, rfl, rfl, .of (g1.tup w1), rfl, a, _, rfl, .inl (.of (g1.lst w2)), ?_⟩
        rw [List.length_map]
        refine ⟨_, rfl, tp, _, _, _, rfl, rfl, .of (g1.tup w1), rfl, b, _, rfl, .inl (.of (g1.lst w3)), ?_⟩
        rw [List.length_map]
        refine ⟨_, _, rfl, rfl, _, hs, cs, g, hs.length + cs.length, rfl, ow.gr g1, by omega, fun H2 l2' g2 n2 hl2 => ?_⟩
        refine ⟨l2', _, rfl, .of hl2, by simp; omega, fun mx hmx hmxle => ?_⟩
        have mxle : ∀ i, i < hs.length + cs.length → tri hs cs g i ≤ mx := fun i hi => hmxle _ (List.mem_map.mpr ⟨i, List.mem_range.mpr hi, rfl⟩)
        obtain ⟨i1, hi1, ei1⟩ := List.mem_map.mp hmx
        have g0 : g = 0 := by
          have gp : 0 ≤ g := by
            have := ri.2.le (i := hs.length) (j := hs.length + cs.length) (by omega)
            rw [q1 _ (Nat.le_refl _)] at this
            omega
          have : g * 1 ≤ g * (cs'.length : Int) := Int.mul_le_mul_of_nonneg_left (by omega) gp
          omega
        subst g0
        refine ⟨_, rfl, _, _, rfl, rfl, _, rfl, iteD (fun em => ?_) (fun em => ?_)⟩
        · have em : most < mx := em
          refine fin H2 none (g1.trans g2) fun d => ⟨i1, ?_⟩
          obtain ⟨y', hy', ey'⟩ := RW.flat_vals c0' q2 (i1 + d)
          have := mle y' hy'
          omega
        · have em : ¬ most < mx := em
          refine hrest H2 _ _ i0 (g1.trans g2) (by omega) (by omega) fun x hx => ?_
          obtain ⟨x', hx', ex'⟩ := RW.flat_vals c0 q1 x
          have a1 := mxle x' hx'
          have a2 : tri hs' cs' 0 i0 ≤ tri hs' cs' 0 (x + i0) := ri'.2.le (by omega)
          omega
      · have gz : g' ≠ 0 := fun z => ez (by rw [z])
        have gp : 0 < g' := by
          have := ri'.2.le (i := hs'.length) (j := hs'.length + cs'.length) (by omega)
          rw [q2 _ (Nat.le_refl _)] at this
          omega
        refine ifF (hrest H1 _ _ (hs'.length + 100000 * cs'.length) g1 (by omega) ?_ fun x hx => ?_)
        · have : 100000 * cs'.length ≤ 100000 * 10 := Nat.mul_le_mul_left _ c10'
          omega
        · have a1 := up x (by omega)
          have a2 := RW.counts_up q2 gp (Int.le_trans ri'.1 (ri'.2.le (Nat.zero_le _))) 100000
          have a3 : tri hs' cs' g' (hs'.length + 100000 * cs'.length) ≤ tri hs' cs' g' (x + (hs'.length + 100000 * cs'.length)) := ri'.2.le (by omega)
          omega
end
end K17
set_option Elab.async false
set_option linter.all false
set_option maxRecDepth 100000
set_option maxHeartbeats 4000000
/-! comprehensions that make what draws are made for -/
namespace K17
open PySem PySem.Spec PyProof.Rows L2 LamX
section
variable {K : PySem.W.Frag} {g : TG} {te : TE} {vs : List Nat} {σ : L2.St} {H1 : Hp} {D d : Addr} {Qd : Hp → Prop}
theorem lc_own {J : It} {n m c : Nat} (R : Nat → Hp → V → Prop) (xs : Nat → V) (mono : ∀ i H H' v n, Gd K d H H' → Dr H d n → R i H v → R i H' v) (upD : ∀ i H v acc acc', H D = some (.lst acc) → R i H v → R i (upd H D (.lst acc')) v)
    (hD : H1 D = none) (hn : n ≤ 16777216) (dr : Dr H1 d m) (hgo : ∀ i H, i < n → Gd K d H1 H → Dr H d (m + c * i) → J.go i H) (hst : ∀ H, Gd K d H1 H → Dr H d (m + c * n) → J.stop n H) (hy : ∀ i H x H', i < n → Gd K d H1 H → Dr H d (m + c * i) → J.yld i H x H' → H' = H ∧ x = xs i)
    (hs : ∀ (i : Nat) (H : Hp) (Q : VK), i < n → Gd K d H1 H → Dr H d (m + c * i) → (∃ acc, H D = some (.lst acc)) → (∀ v H4, Gd K d H H4 → Dr H4 d (m + c * (i + 1)) → R i H4 v → Q v H4) → g (xs i) (wipe σ vs) H fun σ2 H2 => wipe σ2 vs = wipe σ vs ∧ te σ2 H2 Q)
    (hd : ∀ (H : Hp) (ws : List V), Gd K d H1 H → Dr H d (m + c * n) → H D = some (.lst ws) → ws.length = n → (∀ i v, ws[i]? = some v → R i H v) → Qd H) :
    ∃ W : Nat → Nat → Hp → Prop, (∃ m, W 0 m (upd H1 D (.lst []))) ∧ ∀ i m H, W i m H →
      (J.stop i H ∧ Qd H) ∨ (J.go i H ∧ ∃ Nx : Hp → Prop, (∀ H', Nx H' → ∃ m', m' < m ∧ W (i + 1) m' H') ∧ ∀ x H', J.yld i H x H' → g x (wipe σ vs) H' fun σ2 H2 => wipe σ2 vs = wipe σ vs ∧ tYes σ2 H2 fun b H3 =>
        if b = true then te σ2 H3 fun y H4 => ∃ acc, H4 D = some (.lst acc) ∧ acc.length < sizeLine ∧ Nx (upd H4 D (.lst (acc ++ [y]))) else Nx H3) := by
  have nDd : D ≠ d := dr.fresh hD
  have keep : ∀ {H : Hp} {xs : List V} {k : Nat}, Dr H d k → Dr (upd H D (.lst xs)) d k := fun ⟨x, y, z, e, r⟩ => ⟨x, y, z, by rw [upd_ne nDd.symm]; exact e, r⟩
  refine lc_any (n := n) (fun i H => i ≤ n ∧ Gd K d H1 H ∧ Dr H d (m + c * i) ∧ ∃ ws : List V, H D = some (.lst ws) ∧ ws.length = i ∧ ∀ j v, ws[j]? = some v → R j H v)
    ⟨Nat.zero_le _, Gd.of (Ge.new hD), by simpa using keep dr, [], upd_same, rfl, fun j v h => by simp at h⟩ (fun i H hi hP => hgo i H hi hP.2.1 hP.2.2.1) (fun H hP => hst H hP.2.1 hP.2.2.1) (fun i x H H' hi hP hyl => ?_) (fun H hP => ?_)
  · obtain ⟨_, gd, dd, ws, hw, hl, hR⟩ := hP
    obtain ⟨rfl, rfl⟩ := hy i H x H' hi gd dd hyl
    refine hs i H' _ hi gd dd ⟨ws, hw⟩ fun v H4 g4 d4 r4 => ?_
    have h4 := g4.lst nDd hw
    refine ⟨ws, h4, by rw [hl]; exact sizedL (by omega), hi, (gd.trans g4).putNew hD h4 (by intro _ z; cases z) (by intro _ z; cases z), keep d4, ws ++ [v], upd_same, by simp [hl], fun j u h => ?_⟩
    by_cases z : j < ws.length
    · rw [List.getElem?_append_left z] at h
      exact upD _ _ _ _ _ h4 (mono _ _ _ _ _ g4 dd (hR j u h))
    · have : j = ws.length := by
        have := (List.getElem?_eq_some_iff.mp h).1
        simp at this; omega
      subst this
      simp at h
      subst h
      rw [hl]
      exact upD _ _ _ _ _ h4 r4
  · obtain ⟨_, gd, dd, ws, hw, hl, hR⟩ := hP
    exact hd H ws gd dd hw hl hR
end
/-- an own row, its lists neither the draws nor the list that is made -/
def OwnP (d D : Addr) (Pr : List Int → List Int → Int → Prop) (H : Hp) (v : V) : Prop := ∃ hs cs g, OwnD d H v hs cs g ∧ OwnD D H v hs cs g ∧ Pr hs cs g
theorem OwnP.mono {K : PySem.W.Frag} {d D : Addr} {Pr : List Int → List Int → Int → Prop} {H H' : Hp} {v : V} {n : Nat} (g : Gd K d H H') (dr : Dr H d n) (h : OwnP d D Pr H v) : OwnP d D Pr H' v := by
  obtain ⟨hs, cs, gg, o1, o2, p⟩ := h
  have o1' := o1.gd g dr
  refine ⟨hs, cs, gg, o1', ?_, p⟩
  obtain ⟨tp, a, b, rfl, h1, h2, h3, h4, h5, h6, h7, h8⟩ := o1
  obtain ⟨tp2, a2, b2, e, k1, k2, k3, k4, k5, k6, k7, k8⟩ := o2
  cases e
  rw [h1] at k1
  cases k1
  exact ⟨tp, a, b, rfl, g.tup dr h1, g.lst h7 h2, g.lst h8 h3, h4, h5, h6, k7, k8⟩
theorem OwnP.updD {d D : Addr} {Pr : List Int → List Int → Int → Prop} {H : Hp} {v : V} {acc acc' : List V} (hD : H D = some (.lst acc)) (h : OwnP d D Pr H v) : OwnP d D Pr (upd H D (.lst acc')) v := by
  obtain ⟨hs, cs, gg, o1, o2, p⟩ := h
  obtain ⟨tp2, a2, b2, rfl, k1, k2, k3, k4, k5, k6, k7, k8⟩ := o2
  obtain ⟨tp, a, b, e, h1, h2, h3, h4, h5, h6, h7, h8⟩ := o1
  cases e
  rw [k1] at h1
  cases h1
  have t : upd H D (.lst acc') tp2 = some (.tup [.ref a2, .ref b2, .int gg]) := by
    rw [upd_ne fun z => by rw [z, hD] at k1; cases k1]; exact k1
  have l1 : upd H D (.lst acc') a2 = some (.lst (hs.map V.int)) := by rw [upd_ne k7]; exact k2
  have l2 : upd H D (.lst acc') b2 = some (.lst (cs.map V.int)) := by rw [upd_ne k8]; exact k3
  exact ⟨hs, cs, gg, ⟨tp2, a2, b2, rfl, t, l1, l2, k4, k5, k6, h7, h8⟩, ⟨tp2, a2, b2, rfl, t, l1, l2, k4, k5, k6, k7, k8⟩, p⟩
end K17
set_option Elab.async false
set_option linter.all false
set_option maxRecDepth 100000
set_option pp.maxSteps 900
set_option maxHeartbeats 4000000
namespace K17
open PySem PySem.Spec PyProof.Rows L2 LamX NdefX
section
variable {P : Program} {w : World} {K : PySem.W.Frag} {mg : Str → Option Value} {base : Heap}
/-- what is no row, as the law draws it -/
inductive OddV (K : PySem.W.Frag) (H : Hp) : V → Prop where
  | non : OddV K H .non
  | int : OddV K H (.int 5)
  | str : OddV K H (.str "row")
  | bl : OddV K H (.bl true)
  | nil {a : Addr} (h : H a = some (.lst [])) : OddV K H (.ref a)
  | one {a : Addr} (h : H a = some (.lst [.int 0])) : OddV K H (.ref a)
  | tup {a b c : Addr} (h : H a = some (.tup [.ref b, .ref c, .int 1])) (h1 : H b = some (.lst [])) (h2 : H c = some (.lst [.int 0])) : OddV K H (.ref a)
  | dct {a : Addr} (h : H a = some (.dK [])) : OddV K H (.ref a)
  | fn : OddV K H (.ref (He.ga K "_law_draw"))
theorem OddV.gr {H H' : Hp} {v : V} (g : Gr K H H') (h : OddV K H v) : OddV K H' v := by
  cases h with
  | non => exact .non
  | int => exact .int
  | str => exact .str
  | bl => exact .bl
  | nil h => exact .nil (g.lst h)
  | one h => exact .one (g.lst h)
  | tup h h1 h2 => exact .tup (g.tup h) (g.lst h1) (g.lst h2)
  | dct h => exact .dct (g.at h)
  | fn => exact .fn
theorem sc_law_odd_row : FnScope ["_law_draws"] ["_law_draws"] (defScope (topS 87)) := ⟨rfl, rfl, rfl, by decide +kernel, rfl, by decide +kernel, by decide +kernel⟩
def spOddRow (K : PySem.W.Frag) : Sp := fun vs H Q _ => ∃ (d : Addr) (n : Nat), vs = [.ref d] ∧ Dr H d n ∧ n ≤ 100000 ∧ ∀ v H', Gd K d H H' → Dr H' d (n + 1) → OddV K H' v → Q v H'
theorem ok_law_odd_row (X : Txt K mg) : Ok P w K mg base CX0 3 "_law_odd_row" ["_law_draws"] (spOddRow K) := by
  refine ok_def0 X 69 rfl sc_law_odd_row (by decide +kernel) (fun vs H Q E h => ?_) (fun _ _ _ _ _ _ us hl => match us, hl with | [_], _ => rfl) (fun f cdv A outer s H vs Q E hr h => ?_)
  · obtain ⟨d, n, rfl, _⟩ := h; rfl
  · obtain ⟨d, n, rfl, dr, hn, fin⟩ := h
    refine ⟨_, (pss_one (ps_ret (pe_o (ok_law_pick X) hr pass0 (pa_cons (pv 0) (pa_cons (pe_lst (pa_cons pe_non (pa_cons pe_int (pa_cons pe_str (pa_cons (pe_lst pa_nil) (pa_cons (pe_tup (pa_cons (pe_lst pa_nil) (pa_cons (pe_lst (pa_cons pe_int pa_nil)) (pa_cons pe_int pa_nil)))) (pa_cons (pe_dnewK) (pa_cons pe_bl (pa_cons (pe_lst (pa_cons pe_int pa_nil)) (pa_cons (pe_glob (v := .ref (He.ga K "_law_draw")) (by rfl) (X.g "_law_draw" (by decide +kernel)) rfl) pa_nil)))))))))) pa_nil))))), ?_⟩
    refine ⟨_, rfl, by show 0 ≤ sizeLine; decide, fun a na => ?_⟩
    have g1 : Gr K H (upd H a (.lst [])) := Ge.new na
    have ha : upd H a (.lst []) a = some (.lst []) := upd_same
    have nea := dr.fresh na
    generalize upd H a (.lst []) = H1 at g1 ha ⊢
    refine ⟨by show 0 ≤ sizeLine; decide, fun b nb => ?_⟩
    have g2 : Gr K H1 (upd H1 b (.lst [])) := Ge.new nb
    have hb : upd H1 b (.lst []) b = some (.lst []) := upd_same
    have neb := (dr.gr g1).fresh nb
    generalize upd H1 b (.lst []) = H2 at g2 hb ⊢
    have G2 := g1.trans g2
    refine ⟨by show 1 ≤ sizeLine; decide, fun c nc => ?_⟩
    have g3 : Gr K H2 (upd H2 c (.lst [.int 0])) := Ge.new nc
    have hc : upd H2 c (.lst [.int 0]) c = some (.lst [.int 0]) := upd_same
    have nec := (dr.gr G2).fresh nc
    generalize upd H2 c (.lst [.int 0]) = H3 at g3 hc ⊢
    have G3 := G2.trans g3
    refine ⟨by show 3 ≤ sizeLine; decide, fun t nt => ?_⟩
    have g4 : Gr K H3 (upd H3 t (.tup [.ref b, .ref c, .int 1])) := Ge.new nt
    have ht : upd H3 t (.tup [.ref b, .ref c, .int 1]) t = some (.tup [.ref b, .ref c, .int 1]) := upd_same
    generalize upd H3 t (.tup [.ref b, .ref c, .int 1]) = H4 at g4 ht ⊢
    have G4 := G3.trans g4
    intro D nD
    have g5 : Gr K H4 (upd H4 D (.dK [])) := Ge.new nD
    have hD : upd H4 D (.dK []) D = some (.dK []) := upd_same
    generalize upd H4 D (.dK []) = H5 at g5 hD ⊢
    have G5 := G4.trans g5
    refine ⟨by show 1 ≤ sizeLine; decide, fun e ne => ?_⟩
    have g6 : Gr K H5 (upd H5 e (.lst [.int 0])) := Ge.new ne
    have he : upd H5 e (.lst [.int 0]) e = some (.lst [.int 0]) := upd_same
    have nee := (dr.gr G5).fresh ne
    generalize upd H5 e (.lst [.int 0]) = H6 at g6 he ⊢
    have G6 := G5.trans g6
    refine ⟨by show 9 ≤ sizeLine; decide, fun l nl => ?_⟩
    have g7 : Gr K H6 (upd H6 l (.lst [.non, .int 5, .str "row", .ref a, .ref t, .ref D, .bl true, .ref e, .ref (He.ga K "_law_draw")])) := Ge.new nl
    have hl : upd H6 l (.lst [.non, .int 5, .str "row", .ref a, .ref t, .ref D, .bl true, .ref e, .ref (He.ga K "_law_draw")]) l = some (.lst [.non, .int 5, .str "row", .ref a, .ref t, .ref D, .bl true, .ref e, .ref (He.ga K "_law_draw")]) := upd_same
    have nel := (dr.gr G6).fresh nl
    generalize upd H6 l (.lst [.non, .int 5, .str "row", .ref a, .ref t, .ref D, .bl true, .ref e, .ref (He.ga K "_law_draw")]) = H7 at g7 hl ⊢
    have G7 := G6.trans g7
    refine ⟨d, l, _, n, rfl, dr.gr G7, by omega, hl, nel, by simp, by simp, fun v H8 hv g8 d8 => ?_⟩
    have d7 := dr.gr G7
    refine fin v H8 ((Gd.of G7).trans g8) d8 ?_
    have k5 : Gr K H5 H7 := g6.trans g7
    have k4 : Gr K H4 H7 := g5.trans k5
    have k3 : Gr K H3 H7 := g4.trans k4
    simp only [List.mem_cons, List.not_mem_nil, or_false] at hv
    rcases hv with rfl | rfl | rfl | rfl | rfl | rfl | rfl | rfl | rfl
    · exact .non
    · exact .int
    · exact .str
    · exact .nil (g8.lst nea ((g2.trans (g3.trans k3)).lst ha))
    · exact .tup (g8.tup d7 (k4.tup ht)) (g8.lst neb ((g3.trans k3).lst hb)) (g8.lst nec (k3.lst hc))
    · exact .dct (g8.at d7 (k5.at hD))
    · exact .bl
    · exact .one (g8.lst nee (g7.lst he))
    · exact .fn
end
end K17
set_option Elab.async false
set_option linter.all false
set_option maxRecDepth 100000
set_option pp.maxSteps 900
set_option maxHeartbeats 4000000
namespace K17
open PySem PySem.Spec PyProof.Rows L2 LamX NdefX
section
variable {P : Program} {w : World} {K : PySem.W.Frag} {mg : Str → Option Value} {base : Heap}
/-- a small own row, its lists not the draws -/
def OwnS (d : Addr) (H : Hp) (v : V) : Prop := ∃ hs cs g, OwnD d H v hs cs g ∧ Small hs cs g
theorem OwnS.gd {d : Addr} {n : Nat} {H H' : Hp} {v : V} (h : OwnS d H v) (x : Gd K d H H') (dr : Dr H d n) : OwnS d H' v := by
  obtain ⟨hs, cs, g, o, s⟩ := h
  exact ⟨hs, cs, g, o.gd x dr, s⟩
theorem OwnS.gr {d : Addr} {H H' : Hp} {v : V} (h : OwnS d H v) (x : Gr K H H') : OwnS d H' v := by
  obtain ⟨hs, cs, g, o, s⟩ := h
  exact ⟨hs, cs, g, o.gr x, s⟩
theorem OwnD.new {d p : Addr} {H : Hp} {v : V} {hs cs : List Int} {g : Int} (h : OwnD d H v hs cs g) (hp : H p = none) : OwnD p H v hs cs g := by
  obtain ⟨tp, a, b, e, h1, h2, h3, h4, h5, h6, _⟩ := h
  exact ⟨tp, a, b, e, h1, h2, h3, h4, h5, h6, ne_of_none h2 hp, ne_of_none h3 hp⟩
theorem max_small {ns : List Int} {mx : Int} (h : ∀ x ∈ ns, -12 ≤ x ∧ x ≤ 12) (hm : mx ∈ ns) : -12 ≤ mx ∧ mx ≤ 12 := h mx hm
theorem sc_law_flat_pair : FnScope ["_law_draws", "_law_rows", "_law_way", "_law_ends", "_law_one", "_law_other", "_law_k", "_law_row", "_law_value"] ["_law_draws"] (defScope (topS 94)) := ⟨rfl, rfl, rfl, by decide +kernel, rfl, by decide +kernel, by decide +kernel⟩
def spFlatPair (K : PySem.W.Frag) : Sp := fun vs H Q _ => ∃ (d : Addr) (n : Nat), vs = [.ref d] ∧ Dr H d n ∧ n ≤ 50000 ∧ ∀ H' l v v', Gd K d H H' → Dr H' d (n + 60) → H' l = some (.lst [v, v']) → l ≠ d → OwnS d H' v → OwnS d H' v' → Q (.ref l) H'
theorem ok_law_flat_pair (X : Txt K mg) : Ok P w K mg base CX0 4 "_law_flat_pair" ["_law_draws"] (spFlatPair K) := by
  refine ok_def0 X 76 rfl sc_law_flat_pair (by decide +kernel) (fun vs H Q E h => ?_) (fun _ _ _ _ _ _ us hl => match us, hl with | [_], _ => rfl) (fun f cdv A outer s H vs Q E hr h => ?_)
  · obtain ⟨d, n, rfl, _⟩ := h; rfl
  · obtain ⟨d, n, rfl, dr, hn, fin⟩ := h
    have restB : ∃ t, PSs (cxOf CX0 P w K mg base ["_law_draws", "_law_rows", "_law_way", "_law_ends", "_law_one", "_law_other", "_law_k", "_law_row", "_law_value"] "_law_flat_pair" (defScope (topS 94)) f cdv A outer s H E).nox ((defBody (topS 94)).drop 2) t ∧
        ∀ (H' : Hp) (D F : Addr) (v v' u u' : V) (way : Nat), Gd K d H H' → Dr H' d (n + 60) → way < 6 → H' D = some (.lst [v, v']) → D ≠ d → H' F = some (.lst [u, u']) → F ≠ d → OwnS d H' v → OwnS d H' v' → OwnS d H' u → OwnS d H' u' →
          t { nx := fun _ H' => Q .non H', rt := Q } [some (.ref d), some (.ref D), some (.int way), some (.ref F), none, none, none, none, none] H' := by
      refine ⟨_, (pss_cons (ps_if (pt_cmpR op_eq (pv 2) pe_int (nomark _))
  (pss_one (ps_ret (pv 3)))
  pss_nil)
  (pss_cons (ps_asg (pv 1) (unl_K (K := K) (pgs_cons (pg_name (i := 4) sc_law_flat_pair.nd rfl (.inl rfl)) (pgs_cons (pg_name (i := 5) sc_law_flat_pair.nd rfl (.inl rfl)) pgs_nil))))
  (pss_cons (ps_if (pt_cmpR op_gt (pv 2) pe_int (nomark _))
  (pss_one (ps_ret (pe_ifExp (pt_cmpR op_eq (pv 2) pe_int (nomark _)) (pe_lst (pa_cons (pe_ix (ixL_K (K := K)) (pv 3) pe_int (fun _ _ => rfl)) (pa_cons (pv 5) pa_nil))) (pe_lst (pa_cons (pv 4) (pa_cons (pe_ix (ixL_K (K := K)) (pv 3) pe_int (fun _ _ => rfl)) pa_nil))))))
  pss_nil)
  (pss_cons (ps_if (pt_cmpR op_eq (pv 2) pe_int (nomark _))
  (pss_one (ps_ret (pe_lst (pa_cons (pv 4) (pa_cons (pe_tup (pa_cons (pe_slice (slL_K (K := K)) (pe_ix (ixT_K (K := K)) (pv 4) pe_int (fun _ _ => rfl)) po_none (po_some pe_int)) (pa_cons (pe_lc (own := [("_law_value", 8)]) (g := (gName 8)) (tt := tYes) rfl sc_law_flat_pair.nd (piL_K (K := K) (pe_ix (ixT_K (K := K)) (pv 4) pe_int (fun _ _ => rfl))) (blkOk_by (N := ["_law_draws", "_law_rows", "_law_way", "_law_ends", "_law_one", "_law_other", "_law_k", "_law_row", "_law_value"]) (sc := defScope (topS 94)) (by decide +kernel)) (fun _ _ _ _ _ => (pg_name (i := 8) sc_law_flat_pair.nd rfl (.inl rfl))) (fun _ _ _ _ _ => pts_nil) (fun _ _ _ _ _ => (pe_callB (call_max2 rfl) (by rfl) X.b_max (by decide +kernel) (pa_cons (pe_op op_sub (pv 8) pe_int) (pa_cons pe_int pa_nil))))) (pa_cons (pe_ix (ixT_K (K := K)) (pv 4) pe_int (fun _ _ => rfl)) pa_nil)))) pa_nil)))))
  pss_nil)
  (pss_cons (ps_if (pt_cmpR op_eq (pv 2) pe_int (nomark _))
  (pss_one (ps_ret (pe_lst (pa_cons (pv 4) (pa_cons (pe_tup (pa_cons (pe_ix (ixT_K (K := K)) (pv 5) pe_int (fun _ _ => rfl)) (pa_cons (pe_ix (ixT_K (K := K)) (pv 5) pe_int (fun _ _ => rfl)) (pa_cons (pe_callB (call_max2 rfl) (by rfl) X.b_max (by decide +kernel) (pa_cons (pe_ix (ixT_K (K := K)) (pv 5) pe_int (fun _ _ => rfl)) (pa_cons (pe_ix (ixT_K (K := K)) (pv 4) pe_int (fun _ _ => rfl)) pa_nil))) pa_nil)))) pa_nil)))))
  pss_nil)
  (pss_one (ps_ret (pv 1)))))))), ?_⟩
      intro H' D F v v' u u' way gd dd hway hD nD hF nF ov ov' ou ou'
      refine ⟨_, rfl, rfl, _, rfl, iteD (fun e => ?_) (fun e => ?_)⟩
      · exact ⟨_, rfl, fin H' F u u' gd dd hF nF ou ou'⟩
      refine ⟨_, rfl, D, _, rfl, .of hD, rfl, _, _, rfl, _, _, rfl, rfl, ?_⟩
      have two : ∀ (a b : V), OwnS d H' a → OwnS d H' b → ∀ p, H' p = none → Q (.ref p) (upd H' p (.lst [a, b])) := fun a b oa ob p hp =>
        fin _ p a b (gd.gr (Ge.new hp)) (dd.gr (Ge.new (T := tbs K) hp)) upd_same (dd.fresh hp) (oa.gr (Ge.new (T := tbs K) hp)) (ob.gr (Ge.new (T := tbs K) hp))
      refine ⟨_, rfl, _, _, rfl, rfl, _, rfl, iteD (fun e3 => ?_) (fun e3 => ?_)⟩
      · refine ⟨_, rfl, rfl, _, rfl, iteD (fun e4 => ?_) (fun e4 => ?_)⟩
        · exact ⟨_, rfl, F, _, _, _, rfl, rfl, .of hF, rfl, _, rfl, by show 2 ≤ sizeLine; decide, two u v' ou ov'⟩
        · exact ⟨_, rfl, _, rfl, F, _, _, _, rfl, rfl, .of hF, rfl, by show 2 ≤ sizeLine; decide, two v u' ov ou'⟩
      refine ⟨_, rfl, rfl, _, rfl, iteD (fun e1 => ?_) (fun e1 => ?_)⟩
      · -- one, and one's first value, its cycle a little lower
        obtain ⟨hs, cs, g, ⟨tp, a, b, rfl, h1, h2, h3, c0, cz, hz, na, nb⟩, sm⟩ := id ov
        refine ⟨_, rfl, _, rfl, tp, _, _, _, rfl, rfl, .of h1, rfl, _, rfl, slL (ys := (hs.take 1).map V.int) h2 ?_ fun l5 n5 => ?_⟩
        · cases hs with
          | nil => rfl
          | cons x r => exact (cut_take (k := 1) (by simp)).trans (List.map_take ..).symm
        have g5 : Gr K H' (upd H' l5 (.lst ((hs.take 1).map V.int))) := Ge.new n5
        have h5 : upd H' l5 (.lst ((hs.take 1).map V.int)) l5 = some (.lst ((hs.take 1).map V.int)) := upd_same
        have ne5 := dd.fresh n5
        generalize upd H' l5 (.lst ((hs.take 1).map V.int)) = H5 at g5 h5 ⊢
        refine ⟨_, rfl, tp, _, _, _, rfl, rfl, .of (g5.tup h1), rfl, b, rfl, ⟨_, .of (g5.lst h3)⟩, fun E6 hE6 => ?_⟩
        refine lc_lst (K := K) (fun i => V.int (max (cs.getD i 0 - 1) 0)) hE6 (.of (g5.lst h3)) (by simp; omega) (fun i x H7 Q7 hx g7 q7 => ?_) (fun H7 g7 h7 => ?_)
        · have hi : i < cs.length := by
            have := (List.getElem?_eq_some_iff.mp hx).1
            simpa using this
          obtain rfl : x = V.int (cs.getD i 0) := by
            rw [List.getElem?_map, List.getElem?_eq_getElem hi] at hx
            cases hx
            rw [RW.getD_lt hi]
          refine ⟨rfl, _, rfl, _, _, rfl, rfl, _, _, rfl, ?_⟩
          have := q7 _ (Ge.refl _)
          rw [show (if (0 : Int) > cs.getD i 0 - 1 then (0 : Int) else cs.getD i 0 - 1) = max (cs.getD i 0 - 1) 0 by split <;> omega]
          exact this
        · have e7 : H7 E6 = some (.lst ((cs.map fun x => max (x - 1) 0).map V.int)) := by
            rw [h7]
            congr 2
            apply List.ext_getElem
            · simp
            · intro i h1 h2
              have hi : i < cs.length := by simpa using h2
              simp only [List.getElem_map, List.getElem_range]
              rw [RW.getD_lt hi]
          have g57 := g5.trans g7
          have ne7 := (dd.gr g5).fresh hE6
          refine ⟨_, rfl, tp, _, _, _, rfl, rfl, .of (g57.tup h1), rfl, by show 3 ≤ sizeLine; decide, fun u8 nu8 => ?_⟩
          have g8 : Gr K H7 (upd H7 u8 (.tup [.ref l5, .ref E6, .int g])) := Ge.new nu8
          have h8 : upd H7 u8 (.tup [.ref l5, .ref E6, .int g]) u8 = some (.tup [.ref l5, .ref E6, .int g]) := upd_same
          generalize upd H7 u8 (.tup [.ref l5, .ref E6, .int g]) = H8 at g8 h8 ⊢
          have g58 := g57.trans g8
          refine ⟨by show 2 ≤ sizeLine; decide, fun p hp => ?_⟩
          have g9 : Gr K H8 (upd H8 p (.lst [.ref tp, .ref u8])) := Ge.new hp
          refine fin _ p _ _ (gd.gr (g58.trans g9)) (dd.gr (g58.trans g9)) upd_same ((dd.gr g58).fresh hp) (ov.gr (g58.trans g9)) ⟨hs.take 1, cs.map fun x => max (x - 1) 0, g, ⟨u8, l5, E6, rfl, g9.tup h8, g9.lst (g8.lst (g7.lst h5)), g9.lst (g8.lst e7), by simpa using c0, by simp; omega, by simp; omega, ne5, ne7⟩, ⟨by simpa using c0, by simp; omega, by simp; exact sm.c10, fun x hx => sm.h12 x (List.mem_of_mem_take hx), fun x hx => ?_, sm.g12⟩⟩
          obtain ⟨y, hy, rfl⟩ := List.mem_map.mp hx
          have := sm.c12 y hy
          omega
      refine ⟨_, rfl, rfl, _, rfl, iteD (fun e2 => ?_) (fun e2 => ?_)⟩
      · obtain ⟨hs, cs, g, ⟨tp, a, b, rfl, h1, h2, h3, c0, cz, hz, na, nb⟩, sm⟩ := id ov
        obtain ⟨hs', cs', g', ⟨tp', a', b', rfl, h1', h2', h3', c0', cz', hz', na', nb'⟩, sm'⟩ := id ov'
        refine ⟨_, rfl, _, rfl, tp', _, _, _, rfl, rfl, .of h1', rfl, _, rfl, tp', _, _, _, rfl, rfl, .of h1', rfl, _, rfl, tp', _, _, _, rfl, rfl, .of h1', rfl, _, rfl, tp, _, _, _, rfl, rfl, .of h1, rfl, _, _, rfl, by show 3 ≤ sizeLine; decide, fun u8 nu8 => ?_⟩
        have b1 := sm.g12
        have b2 := sm'.g12
        have e8 : (if g > g' then g else g') = max g' g := by split <;> omega
        rw [e8]
        have g8 : Gr K H' (upd H' u8 (.tup [.ref a', .ref b', .int (max g' g)])) := Ge.new nu8
        have h8 : upd H' u8 (.tup [.ref a', .ref b', .int (max g' g)]) u8 = some (.tup [.ref a', .ref b', .int (max g' g)]) := upd_same
        generalize upd H' u8 (.tup [.ref a', .ref b', .int (max g' g)]) = H8 at g8 h8 ⊢
        refine ⟨by show 2 ≤ sizeLine; decide, fun p hp => ?_⟩
        have g9 : Gr K H8 (upd H8 p (.lst [.ref tp, .ref u8])) := Ge.new hp
        have g89 := g8.trans g9
        exact fin _ p _ _ (gd.gr g89) (dd.gr g89) upd_same ((dd.gr g8).fresh hp) (ov.gr g89) ⟨hs', cs', max g' g, ⟨u8, a', b', rfl, g9.tup h8, g89.lst h2', g89.lst h3', c0', cz', hz', na', nb'⟩, ⟨sm'.c0, sm'.h10, sm'.c10, sm'.h12, sm'.c12, by omega, by omega⟩⟩
      · exact ⟨_, rfl, fin H' D v v' gd dd hD nD ov ov'⟩
    obtain ⟨tB, htB, hB⟩ := restB
    refine ⟨_, (pss_cons (ps_setLc (i := 1) (own := [("_law_k", 6)]) (g := (gName 6)) (tt := tYes) rfl sc_law_flat_pair.nd rfl rfl (sw_true rfl rfl rfl (by decide +kernel)) (pi_range1 (by rfl) X.b_range (pa_cons pe_int pa_nil)) (blkOk_by (N := ["_law_draws", "_law_rows", "_law_way", "_law_ends", "_law_one", "_law_other", "_law_k", "_law_row", "_law_value"]) (sc := defScope (topS 94)) (by decide +kernel)) (fun _ _ _ _ _ => (pg_name (i := 6) sc_law_flat_pair.nd rfl (.inl rfl))) (fun _ _ _ _ _ => pts_nil) (fun _ _ _ _ _ => (pe_o (ok_law_rising X) hr pass0 (pa_cons (pv 0) (pa_cons pe_int (pa_cons (pe_o (ok_law_draw X) hr pass0 (pa_cons (pv 0) (pa_cons pe_int pa_nil))) pa_nil))))))
  (pss_cons (ps_par (i := 2) (j := 3) (by rfl) sc_law_flat_pair.nd rfl rfl (by decide) rfl rfl (pa_cons (pe_o (ok_law_draw X) hr pass0 (pa_cons (pv 0) (pa_cons pe_int pa_nil))) (pa_cons (pe_lc (own := [("_law_row", 7)]) (g := (gName 7)) (tt := tYes) rfl sc_law_flat_pair.nd (piL_K (K := K) (pv 1)) (blkOk_by (N := ["_law_draws", "_law_rows", "_law_way", "_law_ends", "_law_one", "_law_other", "_law_k", "_law_row", "_law_value"]) (sc := defScope (topS 94)) (by decide +kernel)) (fun _ _ _ _ _ => (pg_name (i := 7) sc_law_flat_pair.nd rfl (.inl rfl))) (fun _ _ _ _ _ => pts_nil) (fun _ _ _ _ _ => (pe_tup (pa_cons (pe_ix (ixT_K (K := K)) (pv 7) pe_int (fun _ _ => rfl)) (pa_cons (pe_lst (pa_cons (pe_callB (max_K (K := K)) (by rfl) X.b_max (by decide +kernel) (pa_cons (pe_op op_cat (pe_ix (ixT_K (K := K)) (pv 7) pe_int (fun _ _ => rfl)) (pe_ix (ixT_K (K := K)) (pv 7) pe_int (fun _ _ => rfl))) pa_nil)) pa_nil)) (pa_cons pe_int pa_nil)))))) pa_nil)) (by rfl))
  htB)), ?_⟩
    refine ⟨2, rfl, by omega, by omega, fun D hD => ?_⟩
    rw [show (2 : Int).toNat = 2 from rfl]
    have nD := dr.fresh hD
    refine lc_own (K := K) (c := 21) (fun _ => OwnP d D Small) (fun i => .int (0 + (i : Int))) (fun _ _ _ _ _ g dr h => h.mono g dr) (fun _ _ _ _ _ hD h => h.updD hD) hD (by omega) dr (fun i H hi _ _ => hi) (fun H _ _ => Nat.le_refl _) (fun i H x H' _ _ _ h => h) (fun i H2 Q2 hi g2 d2 hacc q2 => ?_) (fun H2 ws g2 d2 hw hl hR => ?_)
    · obtain ⟨acc, hacc⟩ := hacc
      refine ⟨rfl, _, rfl, _, rfl, d, 3, _, rfl, d2, by omega, by omega, by omega, fun r H3 hr3 g3 d3 => ?_⟩
      refine ⟨d, _, (r : Int), rfl, d3, by omega, by omega, by omega, fun H4 v hs cs g g4 d4 ow ri => ?_⟩
      exact q2 v H4 (g3.trans g4) (d4.mono (by omega)) ⟨hs, cs, g, ow.dr d3, ow.ne (g3.lst nD hacc), ri.small⟩
    obtain ⟨v, v', rfl⟩ : ∃ v v', ws = [v, v'] := by
      match ws, hl with
      | [a, b], _ => exact ⟨a, b, rfl⟩
    have ov := hR 0 v rfl
    have ov' := hR 1 v' rfl
    -- way
    refine ⟨_, rfl, d, 6, _, rfl, d2, by omega, by omega, by omega, fun way H3 hway g3 d3 => ?_⟩
    have hw3 := g3.lst nD hw
    have gd3 := g2.trans g3
    have o3 : OwnS d H3 v := by
      obtain ⟨hs, cs, g, o1, o2, sm⟩ := ov.mono g3 d2
      exact ⟨hs, cs, g, o1, sm⟩
    have o3' : OwnS d H3 v' := by
      obtain ⟨hs, cs, g, o1, o2, sm⟩ := ov'.mono g3 d2
      exact ⟨hs, cs, g, o1, sm⟩
    refine ⟨_, rfl, D, rfl, ⟨_, .of hw3⟩, fun E hE => ?_⟩
    have nE := d3.fresh hE
    have oall : ∀ i, i < 2 → OwnS d H3 ([v, v'].getD i .non) := fun i hi => by
      cases i with
      | zero => exact o3
      | succ j =>
        cases j with
        | zero => exact o3'
        | succ k => omega
    have at_ : ∀ i, i < 2 → [v, v'][i]? = some ([v, v'].getD i .non) := fun i hi => by rw [List.getD, List.getElem?_eq_getElem (by simpa using hi)]; rfl
    refine lc_own (K := K) (n := 2) (c := 0) (fun _ => OwnP d E Small) (fun i => [v, v'].getD i .non) (fun _ _ _ _ _ g dr h => h.mono g dr) (fun _ _ _ _ _ hD h => h.updD hD) hE (by omega) d3 (fun i H hi g _ => ⟨_, _, .of (g.lst nD hw3), at_ i hi⟩) (fun H g _ => ⟨_, .of (g.lst nD hw3), Nat.le_refl _⟩) (fun i H x H' hi g _ h => ⟨h.1, Option.some.inj ((h.2 _ (.of (g.lst nD hw3))).symm.trans (at_ i hi))⟩) (fun i H4 Q4 hi g4 d4 hacc q4 => ?_) (fun H4 us g4 d4 hu hul hR4 => ?_)
    · obtain ⟨acc, hacc⟩ := hacc
      have oi : OwnS d H3 ([v, v'].getD i .non) := oall i hi
      generalize [v, v'].getD i .non = x at oi ⊢
      obtain ⟨hs, cs, g, o, sm⟩ := oi
      have oE := o.new hE
      obtain ⟨tp, a, b, rfl, h1, h2, h3, c0, cz, hz, na, nb⟩ := o.gd g4 d3
      have nEa : a ≠ E := by
        obtain ⟨tp2, a2, b2, e, k1, _, _, _, _, _, k7, _⟩ := oE
        cases e
        have := g4.tup d3 k1
        rw [h1] at this
        cases this
        exact k7
      refine ⟨rfl, _, rfl, tp, _, _, _, rfl, rfl, .of h1, rfl, _, rfl, tp, _, _, _, rfl, rfl, .of h1, rfl, _, rfl, tp, _, _, _, rfl, rfl, .of h1, rfl, a, b, _, _, rfl, rfl, h2, h3, by simp; exact sized (by omega), fun p hp => ?_⟩
      have g5 : Gr K H4 (upd H4 p (.lst (hs.map V.int ++ cs.map V.int))) := Ge.new hp
      have h5 : upd H4 p (.lst (hs.map V.int ++ cs.map V.int)) p = some (.lst ((hs ++ cs).map V.int)) := by rw [upd_same, List.map_append]
      generalize upd H4 p (.lst (hs.map V.int ++ cs.map V.int)) = H5 at g5 h5 ⊢
      refine ⟨p, hs ++ cs, rfl, .of h5, by simp; omega, fun mx hm _ => ⟨by show 1 ≤ sizeLine; decide, fun l hl => ?_⟩⟩
      have mb : -12 ≤ mx ∧ mx ≤ 12 := by
        rcases List.mem_append.mp hm with z | z
        · exact sm.h12 mx z
        · exact sm.c12 mx z
      have g6 : Gr K H5 (upd H5 l (.lst [.int mx])) := Ge.new hl
      have h6 : upd H5 l (.lst [.int mx]) l = some (.lst (([mx] : List Int).map V.int)) := upd_same
      have nl : l ≠ d := (d4.gr g5).fresh hl
      have nlE : l ≠ E := fun z => by
        have := g5.lst hacc
        rw [← z, hl] at this; cases this
      generalize upd H5 l (.lst [.int mx]) = H6 at g6 h6 ⊢
      have g56 := g5.trans g6
      refine ⟨by show 3 ≤ sizeLine; decide, fun u nu => ?_⟩
      have g7 : Gr K H6 (upd H6 u (.tup [.ref a, .ref l, .int 0])) := Ge.new nu
      have h7 : upd H6 u (.tup [.ref a, .ref l, .int 0]) u = some (.tup [.ref a, .ref l, .int 0]) := upd_same
      generalize upd H6 u (.tup [.ref a, .ref l, .int 0]) = H7 at g7 h7 ⊢
      have g57 := g56.trans g7
      exact q4 _ H7 (Gd.of g57) ((d4.gr g57).mono (by omega)) ⟨hs, [mx], 0, ⟨u, a, l, rfl, h7, g57.lst h2, g7.lst h6, by simp, by simp, hz, na, nl⟩, ⟨u, a, l, rfl, h7, g57.lst h2, g7.lst h6, by simp, by simp, hz, nEa, nlE⟩,
        ⟨by simp, sm.h10, by simp, sm.h12, fun x hx => by rw [List.mem_singleton.mp hx]; exact mb, by omega, by omega⟩⟩
    obtain ⟨u, u', rfl⟩ : ∃ u u', us = [u, u'] := by
      match us, hul with
      | [a, b], _ => exact ⟨a, b, rfl⟩
    have ou : OwnS d H4 u := by
      obtain ⟨hs, cs, g, o1, o2, sm⟩ := hR4 0 u rfl
      exact ⟨hs, cs, g, o1, sm⟩
    have ou' : OwnS d H4 u' := by
      obtain ⟨hs, cs, g, o1, o2, sm⟩ := hR4 1 u' rfl
      exact ⟨hs, cs, g, o1, sm⟩
    refine ⟨_, _, rfl, ?_⟩
    exact hB H4 D E v v' u u' way (gd3.trans g4) (d4.mono (by omega)) hway (g4.lst nD hw3) nD hu nE (o3.gd g4 d3) (o3'.gd g4 d3) ou ou'
end
end K17
set_option Elab.async false
set_option linter.all false
set_option maxRecDepth 100000
set_option maxHeartbeats 4000000
/-! list(d.items()) of an empty dict; == of one def with itself -/
namespace PySem
namespace FnIs
theorem eq_slot : Slot "function" "__eq__" "object.__eq__" := by
  refine .of (owner := "object") (n := "__eq__") ?_ (by decide +kernel) (by decide +kernel) (by decide +kernel) ?_ ?_
  · rw [typeLookup_type, builtinLookup_eq_fast]; kernel_rfl
  · first | exact .inl (by decide +kernel) | exact .inr (by decide +kernel)
  · rw [isSubtype_type]; kernel_rfl
end FnIs
end PySem
namespace K17
open PySem PySem.Spec PyProof.Rows L2 LamX
/-- the view d.items() at p -/
def itemO (p d : Addr) : HO := .ext fun h => h.IsItemsView p d
theorem itemO_ok {P : Program} {w : World} {H : Hp} {h : Heap} {p d : Addr} (e : h.get? p = some { cls := .type "dict_items", data := .fields #[.ref d] }) : ObjOk P w H h p (itemO p d) :=
  ⟨⟨_, e, rfl, rfl⟩, ⟨_, e⟩, fun h1 h2 x k => let ⟨o, ho, r⟩ := x; ⟨o, k o ho, r⟩⟩
def rItems0 : V → List V → Hp → VK → Prop := fun x xs H Q => ∃ a : Addr, x = .ref a ∧ xs = [] ∧ H a = some (.dK []) ∧ ∀ p, H p = none → Q (.ref p) (upd H p (itemO p a))
def rListI0 : List V → Hp → VK → Prop := fun xs H Q => ∃ p a : Addr, xs = [.ref p] ∧ H p = some (itemO p a) ∧ H a = some (.dK []) ∧ ∀ l, H l = none → Q (.ref l) (upd H l (.lst []))
def rEqFn (K : PySem.W.Frag) : R2 := fun x y H Q => ∃ (a : Addr) (o : Obj), x = .ref a ∧ y = .ref a ∧ K.lookup a = some o ∧ o.cls = .type "function" ∧ Q (.bl true) H
section
variable {X : Cx}
theorem dk_raw {pins : List (Addr × Obj)} {s : Shared} {σ : L2.St} {H : Hp} {a : Addr} (I : Inv X pins σ H s) (h : H a = some (.dK [])) : (a == sysModules) = false ∧ ∃ (es : Array DictEntry) (ep : Nat), s.heap.DictRaw a es ep ∧ es.size = 0 := by
  obtain ⟨_, hd, vs, kv, o, es, ep, ho, hx, hdat, _, hp, _⟩ := dk_of I.hok h
  refine ⟨hd, es, ep, ⟨o, ho, hx, hdat⟩, ?_⟩
  cases kv
  cases e : es.toList with
  | nil => simpa using congrArg List.length e
  | cons a r =>
    rw [e] at hp
    exact (nomatch hp)
theorem mt_items0 : MtR X "dict.items" rItems0 := by
  intro pins s σ H x xs v us Q I rx rxs h
  obtain ⟨a, rfl, rfl, ha, q⟩ := h
  cases rx
  cases rxs
  obtain ⟨hd, es, ep, raw, _⟩ := dk_raw I ha
  refine call_meetsIn PySem.F.slot_dict_items raw.typeIs PySem.F.entry_dict_items (PySem.F.args_dict_items_1 _) (meets_dict_items_raw a hd) ⟨⟨es, ep, raw⟩, ?_⟩
  have hf : H s.heap.objs.size = none := I.hok.fresh (Nat.le_refl _)
  exact ⟨.ref s.heap.objs.size, upd H s.heap.objs.size (itemO s.heap.objs.size a), I.laid (t' := s.toks) (fun b u e => Heap.get?_push_of_some _ e) (Nat.le_refl _) (itemO_ok (Heap.get?_push_size _ rfl)), rfl, q _ hf⟩
theorem call_listI0 (hc : X.calm = true) : CallR X (.type "list") rListI0 := by
  intro pins s σ H xs us Q I rx h
  obtain ⟨p, a, rfl, hp, ha, q⟩ := h
  cases rx with
  | cons r1 rt =>
    cases rt
    obtain rfl : _ = Value.ref p := r1
    obtain ⟨hd, es, ep, raw, hz⟩ := dk_raw I ha
    have hv : s.heap.IsItemsView p a := (I.hok p _ hp).1
    refine PySem.W.dil_call (I.ok.hd hc) hv raw (by omega) fun h' tk acc c as hkeep hS hl hG hacc => ?_
    have e0 : as = [] := List.eq_nil_of_length_eq_zero (by omega)
    subst e0
    refine ⟨.ref s.heap.objs.size, upd H s.heap.objs.size (.lst []), I.laid hkeep (Nat.le_refl _) (show ObjOk X.prog X.w _ _ _ (.lst []) from ⟨Nat.zero_le _, [], c, .nil, ?_⟩), rfl, q _ (I.hok.fresh (Nat.le_refl _))⟩
    have e1 : acc = #[] := by
      apply Array.ext'
      rw [hacc]; rfl
    rw [hS, e1]
theorem op_eqFn (hu : X.A.units < cLine) : OpR X (compareOp .Eq) (rEqFn X.K) := by
  intro pins s σ H x y v u Q I rx ry h
  obtain ⟨a, o, rfl, rfl, e, c, q⟩ := h
  cases rx
  cases ry
  have hT : s.TypeIs (.ref a) "function" := ⟨o, I.kIn _ _ e, c⟩
  show wpAny (model X.prog X.w) X.A (richCompare .Eq (.ref a) (.ref a)) (EP X pins σ Q) X.xe s
  refine wpAny_richCompare_same_room (op := .Eq) hT hT PySem.FnIs.eq_slot (GQ.call_here PySem.FnIs.eq_slot hT F.cmpEntry_eq (F.cmpArgs_eq _ _) (objEq_entry_same ?_)) hu
  exact ⟨(fun z => nomatch z), .bl true, H, I, rfl, q⟩
theorem eqFn_K {K : PySem.W.Frag} (hu : X.A.units < cLine) (hK : X.K = K := by rfl) : OpR X (compareOp .Eq) (rEqFn K) := by subst hK; exact op_eqFn hu
end
end K17
set_option Elab.async false
set_option linter.all false
set_option maxRecDepth 100000
set_option pp.maxSteps 900
set_option maxHeartbeats 4000000
namespace K17
open PySem PySem.Spec PyProof.Rows L2 LamX NdefX
section
variable {X : Cx} {CX : CXT} {j k : Nat} {ps : List Str} {sp : Sp} {x : Str} {E : XK} {e : Expr} {es : List Expr} {t : TA} {p pos : Pos} {K : PySem.W.Frag} {mg : Str → Option Value}
theorem pe_oS (O : Ok X.prog X.w X.K X.mg X.base CX j x ps sp) (hr : Room j X.A) (hx : Passes CX X E) (ha : PA X (e :: es) t) (hg : Gl X x := by rfl) (hdb : (x == ("__debug__" : Str)) = false := by decide)
    (he : starEach (e :: es) X.env = (false, eval e X.env) :: starEach es X.env := by rfl) (hpl : (backTo pos (starEach es X.env)).any (·.1) = false := by rfl) : PE X (.Call (.Name x p) (e :: es) [] pos) (tCall sp [] E t) := pe_o O hr hx ha (Nat.le_refl _) hg hdb he hpl
theorem eqRow_K (T : Txt K mg) (hr : Room k X.A) (hk : 1 ≤ k := by decide) (hK : X.K = K := by rfl) (hmg : X.mg = mg := by rfl) : OpR X (compareOp .Eq) (rEqG (DIns (rowC K) (SameRow K))) := by
  subst hK; subst hmg
  obtain ⟨fd, F, b⟩ := (ok_eq (P := X.prog) (w := X.w) (base := X.base) T).ex
  have M := T.met "__eq__" (by decide +kernel)
  exact op_eqG (rcG_ins F M.at_ M.fn b (show Passes CX0 X (fun _ _ _ => False) from pass0)) (hr.mono hk)
theorem neRow_K {P : Program} (T : TxtB P K mg) (hr : Room k X.A) (hk : 2 ≤ k := by decide) (hK : X.K = K := by rfl) (hmg : X.mg = mg := by rfl) : OpR X (compareOp .NotEq) (rNeG (DIns (rowC K) (SameRow K))) := by
  subst hK; subst hmg
  obtain ⟨fd, F, b⟩ := (ok_eq (P := X.prog) (w := X.w) (base := X.base) T.t).ex
  have M := T.t.met "__eq__" (by decide +kernel)
  exact op_neG F M.at_ M.fn T.ne T.t.c4 b (show Passes CX0 X (fun _ _ _ => False) from pass0) (hr.mono hk)
end
section
variable {P : Program} {w : World} {K : PySem.W.Frag} {mg : Str → Option Value} {base : Heap}
/-- equal things that hold none -/
inductive Flat0 (K : PySem.W.Frag) (H : Hp) : V → V → Prop where
  | int (i : Int) : Flat0 K H (.int i) (.int i)
  | bl (b : Bool) : Flat0 K H (.bl b) (.bl b)
  | non : Flat0 K H .non .non
  | str (x : Str) : Flat0 K H (.str x) (.str x)
  | fn {a : Addr} {o : Obj} (e : K.lookup a = some o) (c : o.cls = .type "function") : Flat0 K H (.ref a) (.ref a)
  | row {a b : Addr} (h : SameRow K a b H) : Flat0 K H (.ref a) (.ref b)
theorem Flat0.gr {H H' : Hp} {x y : V} (g : Gr K H H') (h : Flat0 K H x y) : Flat0 K H' x y := by
  cases h with
  | int i => exact .int i
  | bl b => exact .bl b
  | non => exact .non
  | str x => exact .str x
  | fn e c => exact .fn e c
  | row h =>
    obtain ⟨f, r1, r2⟩ := h
    exact .row ⟨f, g.row r1, g.row r2⟩
theorem anyF {t c : Value} {cs : List Value} (h : PySem.W.kitOne K t c = some false) (k : PySem.W.kitAny K t cs = some false) : PySem.W.kitAny K t (c :: cs) = some false :=
  kitAny_cons (b := false) h (fun _ => k) (fun z => nomatch z)
/-- the types of what holds none, and is no int -/
structure NoCon (K : PySem.W.Frag) (t : Value) : Prop where
  li : PySem.W.kitOne K t (.type "list") = some false
  tu : PySem.W.kitOne K t (.type "tuple") = some false
  di : PySem.W.kitOne K t (.type "dict") = some false
theorem NoCon.two {t : Value} (h : NoCon K t) : PySem.W.kitAny K t [.type "list", .type "tuple"] = some false := anyF h.li (anyF h.tu rfl)
theorem NoCon.four {t : Value} (h : NoCon K t) (i : PySem.W.kitOne K t (.type "int") = some false) : PySem.W.kitAny K t [.type "int", .type "list", .type "tuple", .type "dict"] = some false := anyF i (anyF h.li (anyF h.tu (anyF h.di rfl)))
theorem noCon_int : NoCon K (.type "int") := ⟨kit_ty (by decide +kernel), kit_ty (by decide +kernel), kit_ty (by decide +kernel)⟩
theorem noCon_bool : NoCon K (.type "bool") := ⟨kit_ty (by decide +kernel), kit_ty (by decide +kernel), kit_ty (by decide +kernel)⟩
theorem noCon_none : NoCon K (.type "NoneType") := ⟨kit_ty (by decide +kernel), kit_ty (by decide +kernel), kit_ty (by decide +kernel)⟩
theorem noCon_str : NoCon K (.type "str") := ⟨kit_ty (by decide +kernel), kit_ty (by decide +kernel), kit_ty (by decide +kernel)⟩
theorem noCon_fn : NoCon K (.type "function") := ⟨kit_ty (by decide +kernel), kit_ty (by decide +kernel), kit_ty (by decide +kernel)⟩
theorem noCon_row (X : Txt K mg) : NoCon K (.ref (rowC K)) := ⟨X.isR "list" (by decide +kernel), X.isR "tuple" (by decide +kernel), X.isR "dict" (by decide +kernel)⟩
theorem sc_law_same : FnScope ["_law_found", "_law_due", "_law_x", "_law_y"] ["_law_found", "_law_due"] (defScope (topS 77)) := ⟨rfl, rfl, rfl, by decide +kernel, rfl, by decide +kernel, by decide +kernel⟩
theorem same_flat (X : Txt K mg) {k : Nat} (f : Addr) (cdv : Value) (A : Around) (outer : List Env) (s : Shared) (H : Hp) (x y : V) (Q : VK) (E : XK) (hr : Room (k + 1) (A.deeper (envOfC "_law_same" (defScope (topS 77)) s.heap.objs.size f cdv))) (h : Flat0 K H x y) (q : ∀ H', Gr K H H' → Q (.bl true) H') :
    ∃ t, PSs (cxOf CX0 P w K mg base ["_law_found", "_law_due", "_law_x", "_law_y"] "_law_same" (defScope (topS 77)) f cdv A outer s H E).nox (defBody (topS 77)) t ∧ t { nx := fun _ H' => Q .non H', rt := Q } (start ["_law_found", "_law_due", "_law_x", "_law_y"] [x, y]) H := by
  have hk : 1 ≤ k + 1 := by omega
  cases h with
  | int i =>
    refine ⟨_, (pss_cons (ps_if (pt_val (pe_callB (isiFT_K (K := K)) (by rfl) X.b_isinstance (by decide +kernel) (pa_cons (pv 1) (pa_cons (pe_tup (pa_cons (pe_bltn (v := .ty "list") (by rfl) X.b_list (by decide +kernel) rfl) (pa_cons (pe_bltn (v := .ty "tuple") (by rfl) X.b_tuple (by decide +kernel) rfl) pa_nil))) pa_nil))))
  (pss_cons ps_never (pss_one ps_never))
  pss_nil)
  (pss_cons (ps_if (pt_val (pe_callB (isiF_K (K := K)) (by rfl) X.b_isinstance (by decide +kernel) (pa_cons (pv 1) (pa_cons (pe_bltn (v := .ty "dict") (by rfl) X.b_dict (by decide +kernel) rfl) pa_nil))))
  (pss_one ps_never)
  pss_nil)
  (pss_cons (ps_if (pt_val (pe_callB (isiF_K (K := K)) (by rfl) X.b_isinstance (by decide +kernel) (pa_cons (pv 1) (pa_cons (pe_bltn (v := .ty "int") (by rfl) X.b_int (by decide +kernel) rfl) pa_nil))))
  (pss_one (ps_ret (pe_and (pe_callB (isiF_K (K := K)) (by rfl) X.b_isinstance (by decide +kernel) (pa_cons (pv 0) (pa_cons (pe_bltn (v := .ty "int") (by rfl) X.b_int (by decide +kernel) rfl) pa_nil))) (pe_and (pe_cmpR op_eq (pe_callB (isiF_K (K := K)) (by rfl) X.b_isinstance (by decide +kernel) (pa_cons (pv 0) (pa_cons (pe_bltn (v := .ty "bool") (by rfl) X.b_bool (by decide +kernel) rfl) pa_nil))) (pe_callB (isiF_K (K := K)) (by rfl) X.b_isinstance (by decide +kernel) (pa_cons (pv 1) (pa_cons (pe_bltn (v := .ty "bool") (by rfl) X.b_bool (by decide +kernel) rfl) pa_nil))) (nomark _)) (pe_one (pe_cmpR op_eq (pv 0) (pv 1) (nomark _)))))))
  pss_nil)
  (pss_one ps_never)))), ?_⟩
    refine ⟨_, rfl, by show 2 ≤ sizeLine; decide, fun tp ntp => ?_⟩
    refine ⟨_, tp, _, _, _, false, rfl, upd_same, .cons (.ty _) (.cons (.ty _) .nil), .of (.base (.int i)), noCon_int.two, false, rfl, ifF ?_⟩
    refine ⟨_, rfl, _, _, _, _, false, rfl, .ty _, .of (.base (.int i)), noCon_int.di, false, rfl, ifF ?_⟩
    refine ⟨_, rfl, _, _, _, _, true, rfl, .ty _, .of (.base (.int i)), kit_ty (by decide +kernel), true, rfl, ifT ?_⟩
    refine ⟨_, rfl, _, _, _, _, true, rfl, .ty _, .of (.base (.int i)), kit_ty (by decide +kernel), true, rfl, ifT ?_⟩
    refine ⟨_, rfl, _, _, _, _, false, rfl, .ty _, .of (.base (.int i)), kit_ty (by decide +kernel), ?_⟩
    refine ⟨_, rfl, _, _, _, _, false, rfl, .ty _, .of (.base (.int i)), kit_ty (by decide +kernel), ?_⟩
    refine ⟨rfl, _, rfl, iteDT rfl ?_⟩
    refine ⟨_, rfl, _, rfl, rfl, ?_⟩
    exact qDT rfl (q _ (Ge.new ntp))
  | bl b =>
    refine ⟨_, (pss_cons (ps_if (pt_val (pe_callB (isiFT_K (K := K)) (by rfl) X.b_isinstance (by decide +kernel) (pa_cons (pv 1) (pa_cons (pe_tup (pa_cons (pe_bltn (v := .ty "list") (by rfl) X.b_list (by decide +kernel) rfl) (pa_cons (pe_bltn (v := .ty "tuple") (by rfl) X.b_tuple (by decide +kernel) rfl) pa_nil))) pa_nil))))
  (pss_cons ps_never (pss_one ps_never))
  pss_nil)
  (pss_cons (ps_if (pt_val (pe_callB (isiF_K (K := K)) (by rfl) X.b_isinstance (by decide +kernel) (pa_cons (pv 1) (pa_cons (pe_bltn (v := .ty "dict") (by rfl) X.b_dict (by decide +kernel) rfl) pa_nil))))
  (pss_one ps_never)
  pss_nil)
  (pss_cons (ps_if (pt_val (pe_callB (isiF_K (K := K)) (by rfl) X.b_isinstance (by decide +kernel) (pa_cons (pv 1) (pa_cons (pe_bltn (v := .ty "int") (by rfl) X.b_int (by decide +kernel) rfl) pa_nil))))
  (pss_one (ps_ret (pe_and (pe_callB (isiF_K (K := K)) (by rfl) X.b_isinstance (by decide +kernel) (pa_cons (pv 0) (pa_cons (pe_bltn (v := .ty "int") (by rfl) X.b_int (by decide +kernel) rfl) pa_nil))) (pe_and (pe_cmpR op_eq (pe_callB (isiF_K (K := K)) (by rfl) X.b_isinstance (by decide +kernel) (pa_cons (pv 0) (pa_cons (pe_bltn (v := .ty "bool") (by rfl) X.b_bool (by decide +kernel) rfl) pa_nil))) (pe_callB (isiF_K (K := K)) (by rfl) X.b_isinstance (by decide +kernel) (pa_cons (pv 1) (pa_cons (pe_bltn (v := .ty "bool") (by rfl) X.b_bool (by decide +kernel) rfl) pa_nil))) (nomark _)) (pe_one (pe_cmpR op_eq (pv 0) (pv 1) (nomark _)))))))
  pss_nil)
  (pss_one ps_never)))), ?_⟩
    refine ⟨_, rfl, by show 2 ≤ sizeLine; decide, fun tp ntp => ?_⟩
    refine ⟨_, tp, _, _, _, false, rfl, upd_same, .cons (.ty _) (.cons (.ty _) .nil), .of (.base (.bl b)), noCon_bool.two, false, rfl, ifF ?_⟩
    refine ⟨_, rfl, _, _, _, _, false, rfl, .ty _, .of (.base (.bl b)), noCon_bool.di, false, rfl, ifF ?_⟩
    refine ⟨_, rfl, _, _, _, _, true, rfl, .ty _, .of (.base (.bl b)), kit_ty (by decide +kernel), true, rfl, ifT ?_⟩
    refine ⟨_, rfl, _, _, _, _, true, rfl, .ty _, .of (.base (.bl b)), kit_ty (by decide +kernel), true, rfl, ifT ?_⟩
    refine ⟨_, rfl, _, _, _, _, true, rfl, .ty _, .of (.base (.bl b)), kit_ty (by decide +kernel), ?_⟩
    refine ⟨_, rfl, _, _, _, _, true, rfl, .ty _, .of (.base (.bl b)), kit_ty (by decide +kernel), ?_⟩
    refine ⟨rfl, _, rfl, iteDT rfl ?_⟩
    refine ⟨_, rfl, _, rfl, rfl, ?_⟩
    exact qDT rfl (q _ (Ge.new ntp))
  | non =>
    refine ⟨_, (pss_cons (ps_if (pt_val (pe_callB (isiFT_K (K := K)) (by rfl) X.b_isinstance (by decide +kernel) (pa_cons (pv 1) (pa_cons (pe_tup (pa_cons (pe_bltn (v := .ty "list") (by rfl) X.b_list (by decide +kernel) rfl) (pa_cons (pe_bltn (v := .ty "tuple") (by rfl) X.b_tuple (by decide +kernel) rfl) pa_nil))) pa_nil))))
  (pss_cons ps_never (pss_one ps_never))
  pss_nil)
  (pss_cons (ps_if (pt_val (pe_callB (isiF_K (K := K)) (by rfl) X.b_isinstance (by decide +kernel) (pa_cons (pv 1) (pa_cons (pe_bltn (v := .ty "dict") (by rfl) X.b_dict (by decide +kernel) rfl) pa_nil))))
  (pss_one ps_never)
  pss_nil)
  (pss_cons (ps_if (pt_val (pe_callB (isiF_K (K := K)) (by rfl) X.b_isinstance (by decide +kernel) (pa_cons (pv 1) (pa_cons (pe_bltn (v := .ty "int") (by rfl) X.b_int (by decide +kernel) rfl) pa_nil))))
  (pss_one ps_never)
  pss_nil)
  (pss_one (ps_ret (pe_and (pe_not (pe_callB (isiFT_K (K := K)) (by rfl) X.b_isinstance (by decide +kernel) (pa_cons (pv 0) (pa_cons (pe_tup (pa_cons (pe_bltn (v := .ty "int") (by rfl) X.b_int (by decide +kernel) rfl) (pa_cons (pe_bltn (v := .ty "list") (by rfl) X.b_list (by decide +kernel) rfl) (pa_cons (pe_bltn (v := .ty "tuple") (by rfl) X.b_tuple (by decide +kernel) rfl) (pa_cons (pe_bltn (v := .ty "dict") (by rfl) X.b_dict (by decide +kernel) rfl) pa_nil))))) pa_nil)))) (pe_one (pe_cmpR op_eq (pv 0) (pv 1) (nomark _))))))))), ?_⟩
    refine ⟨_, rfl, by show 2 ≤ sizeLine; decide, fun tp ntp => ?_⟩
    refine ⟨_, tp, _, _, _, false, rfl, upd_same, .cons (.ty _) (.cons (.ty _) .nil), .of (.base .non), noCon_none.two, false, rfl, ifF ?_⟩
    refine ⟨_, rfl, _, _, _, _, false, rfl, .ty _, .of (.base .non), noCon_none.di, false, rfl, ifF ?_⟩
    refine ⟨_, rfl, _, _, _, _, false, rfl, .ty _, .of (.base .non), (kit_ty (by decide +kernel)), false, rfl, ifF ?_⟩
    refine ⟨_, rfl, by show 4 ≤ sizeLine; decide, fun t2 nt2 => ?_⟩
    refine ⟨_, t2, _, _, _, false, rfl, upd_same, .cons (.ty _) (.cons (.ty _) (.cons (.ty _) (.cons (.ty _) .nil))), .of (.base .non), noCon_none.four (kit_ty (by decide +kernel)), false, rfl, true, rfl, ifT ?_⟩
    refine ⟨_, rfl, _, rfl, ?_⟩
    exact ⟨rfl, qDT rfl (q _ ((Ge.new ntp).trans (Ge.new nt2)))⟩
  | str x =>
    refine ⟨_, (pss_cons (ps_if (pt_val (pe_callB (isiFT_K (K := K)) (by rfl) X.b_isinstance (by decide +kernel) (pa_cons (pv 1) (pa_cons (pe_tup (pa_cons (pe_bltn (v := .ty "list") (by rfl) X.b_list (by decide +kernel) rfl) (pa_cons (pe_bltn (v := .ty "tuple") (by rfl) X.b_tuple (by decide +kernel) rfl) pa_nil))) pa_nil))))
  (pss_cons ps_never (pss_one ps_never))
  pss_nil)
  (pss_cons (ps_if (pt_val (pe_callB (isiF_K (K := K)) (by rfl) X.b_isinstance (by decide +kernel) (pa_cons (pv 1) (pa_cons (pe_bltn (v := .ty "dict") (by rfl) X.b_dict (by decide +kernel) rfl) pa_nil))))
  (pss_one ps_never)
  pss_nil)
  (pss_cons (ps_if (pt_val (pe_callB (isiF_K (K := K)) (by rfl) X.b_isinstance (by decide +kernel) (pa_cons (pv 1) (pa_cons (pe_bltn (v := .ty "int") (by rfl) X.b_int (by decide +kernel) rfl) pa_nil))))
  (pss_one ps_never)
  pss_nil)
  (pss_one (ps_ret (pe_and (pe_not (pe_callB (isiFT_K (K := K)) (by rfl) X.b_isinstance (by decide +kernel) (pa_cons (pv 0) (pa_cons (pe_tup (pa_cons (pe_bltn (v := .ty "int") (by rfl) X.b_int (by decide +kernel) rfl) (pa_cons (pe_bltn (v := .ty "list") (by rfl) X.b_list (by decide +kernel) rfl) (pa_cons (pe_bltn (v := .ty "tuple") (by rfl) X.b_tuple (by decide +kernel) rfl) (pa_cons (pe_bltn (v := .ty "dict") (by rfl) X.b_dict (by decide +kernel) rfl) pa_nil))))) pa_nil)))) (pe_one (pe_cmpR op_eq (pv 0) (pv 1) (nomark _))))))))), ?_⟩
    refine ⟨_, rfl, by show 2 ≤ sizeLine; decide, fun tp ntp => ?_⟩
    refine ⟨_, tp, _, _, _, false, rfl, upd_same, .cons (.ty _) (.cons (.ty _) .nil), .of (.base (.str x)), noCon_str.two, false, rfl, ifF ?_⟩
    refine ⟨_, rfl, _, _, _, _, false, rfl, .ty _, .of (.base (.str x)), noCon_str.di, false, rfl, ifF ?_⟩
    refine ⟨_, rfl, _, _, _, _, false, rfl, .ty _, .of (.base (.str x)), (kit_ty (by decide +kernel)), false, rfl, ifF ?_⟩
    refine ⟨_, rfl, by show 4 ≤ sizeLine; decide, fun t2 nt2 => ?_⟩
    refine ⟨_, t2, _, _, _, false, rfl, upd_same, .cons (.ty _) (.cons (.ty _) (.cons (.ty _) (.cons (.ty _) .nil))), .of (.base (.str x)), noCon_str.four (kit_ty (by decide +kernel)), false, rfl, true, rfl, ifT ?_⟩
    refine ⟨_, rfl, _, rfl, ?_⟩
    exact ⟨rfl, qDT rfl (q _ ((Ge.new ntp).trans (Ge.new nt2)))⟩
  | @fn a o e c =>
    refine ⟨_, (pss_cons (ps_if (pt_val (pe_callB (isiFT_K (K := K)) (by rfl) X.b_isinstance (by decide +kernel) (pa_cons (pv 1) (pa_cons (pe_tup (pa_cons (pe_bltn (v := .ty "list") (by rfl) X.b_list (by decide +kernel) rfl) (pa_cons (pe_bltn (v := .ty "tuple") (by rfl) X.b_tuple (by decide +kernel) rfl) pa_nil))) pa_nil))))
  (pss_cons ps_never (pss_one ps_never))
  pss_nil)
  (pss_cons (ps_if (pt_val (pe_callB (isiF_K (K := K)) (by rfl) X.b_isinstance (by decide +kernel) (pa_cons (pv 1) (pa_cons (pe_bltn (v := .ty "dict") (by rfl) X.b_dict (by decide +kernel) rfl) pa_nil))))
  (pss_one ps_never)
  pss_nil)
  (pss_cons (ps_if (pt_val (pe_callB (isiF_K (K := K)) (by rfl) X.b_isinstance (by decide +kernel) (pa_cons (pv 1) (pa_cons (pe_bltn (v := .ty "int") (by rfl) X.b_int (by decide +kernel) rfl) pa_nil))))
  (pss_one ps_never)
  pss_nil)
  (pss_one (ps_ret (pe_and (pe_not (pe_callB (isiFT_K (K := K)) (by rfl) X.b_isinstance (by decide +kernel) (pa_cons (pv 0) (pa_cons (pe_tup (pa_cons (pe_bltn (v := .ty "int") (by rfl) X.b_int (by decide +kernel) rfl) (pa_cons (pe_bltn (v := .ty "list") (by rfl) X.b_list (by decide +kernel) rfl) (pa_cons (pe_bltn (v := .ty "tuple") (by rfl) X.b_tuple (by decide +kernel) rfl) (pa_cons (pe_bltn (v := .ty "dict") (by rfl) X.b_dict (by decide +kernel) rfl) pa_nil))))) pa_nil)))) (pe_one (pe_cmpR (eqFn_K (K := K) hr.units0) (pv 0) (pv 1) (nomark _))))))))), ?_⟩
    refine ⟨_, rfl, by show 2 ≤ sizeLine; decide, fun tp ntp => ?_⟩
    refine ⟨_, tp, _, _, _, false, rfl, upd_same, .cons (.ty _) (.cons (.ty _) .nil), .fn e c, noCon_fn.two, false, rfl, ifF ?_⟩
    refine ⟨_, rfl, _, _, _, _, false, rfl, .ty _, .fn e c, noCon_fn.di, false, rfl, ifF ?_⟩
    refine ⟨_, rfl, _, _, _, _, false, rfl, .ty _, .fn e c, (kit_ty (by decide +kernel)), false, rfl, ifF ?_⟩
    refine ⟨_, rfl, by show 4 ≤ sizeLine; decide, fun t2 nt2 => ?_⟩
    refine ⟨_, t2, _, _, _, false, rfl, upd_same, .cons (.ty _) (.cons (.ty _) (.cons (.ty _) (.cons (.ty _) .nil))), .fn e c, noCon_fn.four (kit_ty (by decide +kernel)), false, rfl, true, rfl, ifT ?_⟩
    refine ⟨_, rfl, _, rfl, ?_⟩
    exact ⟨a, o, rfl, rfl, e, c, q _ ((Ge.new ntp).trans (Ge.new nt2))⟩
  | @row a b h =>
    refine ⟨_, (pss_cons (ps_if (pt_val (pe_callB (isiFT_K (K := K)) (by rfl) X.b_isinstance (by decide +kernel) (pa_cons (pv 1) (pa_cons (pe_tup (pa_cons (pe_bltn (v := .ty "list") (by rfl) X.b_list (by decide +kernel) rfl) (pa_cons (pe_bltn (v := .ty "tuple") (by rfl) X.b_tuple (by decide +kernel) rfl) pa_nil))) pa_nil))))
  (pss_cons ps_never (pss_one ps_never))
  pss_nil)
  (pss_cons (ps_if (pt_val (pe_callB (isiF_K (K := K)) (by rfl) X.b_isinstance (by decide +kernel) (pa_cons (pv 1) (pa_cons (pe_bltn (v := .ty "dict") (by rfl) X.b_dict (by decide +kernel) rfl) pa_nil))))
  (pss_one ps_never)
  pss_nil)
  (pss_cons (ps_if (pt_val (pe_callB (isiF_K (K := K)) (by rfl) X.b_isinstance (by decide +kernel) (pa_cons (pv 1) (pa_cons (pe_bltn (v := .ty "int") (by rfl) X.b_int (by decide +kernel) rfl) pa_nil))))
  (pss_one ps_never)
  pss_nil)
  (pss_one (ps_ret (pe_and (pe_not (pe_callB (isiFT_K (K := K)) (by rfl) X.b_isinstance (by decide +kernel) (pa_cons (pv 0) (pa_cons (pe_tup (pa_cons (pe_bltn (v := .ty "int") (by rfl) X.b_int (by decide +kernel) rfl) (pa_cons (pe_bltn (v := .ty "list") (by rfl) X.b_list (by decide +kernel) rfl) (pa_cons (pe_bltn (v := .ty "tuple") (by rfl) X.b_tuple (by decide +kernel) rfl) (pa_cons (pe_bltn (v := .ty "dict") (by rfl) X.b_dict (by decide +kernel) rfl) pa_nil))))) pa_nil)))) (pe_one (pe_cmpR (eqRow_K X hr (by omega)) (pv 0) (pv 1) (nomark _))))))))), ?_⟩
    obtain ⟨F, r1, r2⟩ := h
    have gg : ∀ {tp t2 : Addr} {o o2 : HO}, H tp = none → upd H tp o t2 = none → Gr K H (upd (upd H tp o) t2 o2) := fun n1 n2 => (Ge.new n1).trans (Ge.new n2)
    refine ⟨_, rfl, by show 2 ≤ sizeLine; decide, fun tp ntp => ?_⟩
    have r1b := (Ge.new (T := tbs K) (o := .tup [.ty "list", .ty "tuple"]) ntp).row r1
    have r2b := (Ge.new (T := tbs K) (o := .tup [.ty "list", .ty "tuple"]) ntp).row r2
    refine ⟨_, tp, _, _, _, false, rfl, upd_same, .cons (.ty _) (.cons (.ty _) .nil), .of (tyRow X r2b), (noCon_row X).two, false, rfl, ifF ?_⟩
    refine ⟨_, rfl, _, _, _, _, false, rfl, .ty _, .of (tyRow X r2b), (noCon_row X).di, false, rfl, ifF ?_⟩
    refine ⟨_, rfl, _, _, _, _, false, rfl, .ty _, .of (tyRow X r2b), (X.isR "int" (by decide +kernel)), false, rfl, ifF ?_⟩
    refine ⟨_, rfl, by show 4 ≤ sizeLine; decide, fun t2 nt2 => ?_⟩
    have r1c := (Ge.new (T := tbs K) (o := .tup [.ty "int", .ty "list", .ty "tuple", .ty "dict"]) nt2).row r1b
    have r2c := (Ge.new (T := tbs K) (o := .tup [.ty "int", .ty "list", .ty "tuple", .ty "dict"]) nt2).row r2b
    refine ⟨_, t2, _, _, _, false, rfl, upd_same, .cons (.ty _) (.cons (.ty _) (.cons (.ty _) (.cons (.ty _) .nil))), .of (tyRow X r1c), (noCon_row X).four (X.isR "int" (by decide +kernel)), false, rfl, true, rfl, ifT ?_⟩
    refine ⟨_, rfl, _, rfl, ?_⟩
    obtain ⟨t1, c1, e1, z1, dx1, ea1, er1, w1, w2, w3⟩ := id r1c
    obtain ⟨t2', c2, e2, z2, dx2, ea2, er2, u1, u2, u3⟩ := id r2c
    exact ⟨⟨a, b, dx1, dx2, _, _, rfl, rfl, w1, u1, F, r1c, r2c⟩, fun H' ex => q H' ((gg ntp nt2).trans (Ge.of ex))⟩
end
end K17
set_option Elab.async false
set_option linter.all false
set_option maxRecDepth 100000
set_option pp.maxSteps 900
set_option maxHeartbeats 4000000
namespace K17
open PySem PySem.Spec PyProof.Rows L2 LamX NdefX
section
variable {K : PySem.W.Frag} {g : TG} {te : TE} {vs : List Nat} {σ : L2.St} {H1 : Hp} {D : Addr} {Qd : Hp → Prop}
theorem lc_zip {J : It} {a b : Addr} {xs ys : List V} (F : Nat → V) (m : (SqL K H1 a xs ∧ SqL K H1 b ys ∧ J = Itz K a b) ∨ (SqT K H1 a xs ∧ SqT K H1 b ys ∧ J = RZ.ItzT K a b)) (e : xs.length = ys.length) (hD : H1 D = none) (hn : xs.length ≤ 16777216)
    (hs : ∀ i x y T H (Q : VK), xs[i]? = some x → ys[i]? = some y → Gr K H1 H → H T = some (.tup [x, y]) → (∀ H4, Gr K H H4 → Q (F i) H4) → g (.ref T) (wipe σ vs) H fun σ2 H2 => wipe σ2 vs = wipe σ vs ∧ te σ2 H2 Q)
    (hd : ∀ H, Gr K H1 H → H D = some (.lst ((List.range xs.length).map F)) → Qd H) :
    ∃ W : Nat → Nat → Hp → Prop, (∃ m, W 0 m (upd H1 D (.lst []))) ∧ ∀ i m H, W i m H →
      (J.stop i H ∧ Qd H) ∨ (J.go i H ∧ ∃ Nx : Hp → Prop, (∀ H', Nx H' → ∃ m', m' < m ∧ W (i + 1) m' H') ∧ ∀ x H', J.yld i H x H' → g x (wipe σ vs) H' fun σ2 H2 => wipe σ2 vs = wipe σ vs ∧ tYes σ2 H2 fun b H3 =>
        if b = true then te σ2 H3 fun y H4 => ∃ acc, H4 D = some (.lst acc) ∧ acc.length < sizeLine ∧ Nx (upd H4 D (.lst (acc ++ [y]))) else Nx H3) := by
  have at_ : ∀ i, i < xs.length → xs[i]? = some (xs.getD i .non) := fun i hi => by rw [List.getD, List.getElem?_eq_getElem hi]; rfl
  have at2 : ∀ i, i < xs.length → ys[i]? = some (ys.getD i .non) := fun i hi => by rw [List.getD, List.getElem?_eq_getElem (e ▸ hi)]; rfl
  refine lc_any (n := xs.length) (fun i H => i ≤ xs.length ∧ Gr K H1 H ∧ H D = some (.lst ((List.range i).map F))) ⟨Nat.zero_le _, Ge.new hD, upd_same⟩ (fun i H hi hP => ?_) (fun H hP => ?_) (fun i x H H' hi hP hyl => ?_) (fun H hP => hd H hP.2.1 hP.2.2)
  · rcases m with ⟨m1, m2, rfl⟩ | ⟨m1, m2, rfl⟩
    · exact ⟨xs, ys, _, _, hP.2.1.sqL m1, hP.2.1.sqL m2, at_ i hi, at2 i hi⟩
    · exact ⟨xs, ys, _, _, hP.2.1.sqT m1, hP.2.1.sqT m2, at_ i hi, at2 i hi⟩
  · rcases m with ⟨m1, m2, rfl⟩ | ⟨m1, m2, rfl⟩
    · exact ⟨xs, ys, hP.2.1.sqL m1, hP.2.1.sqL m2, .inl (Nat.le_refl _)⟩
    · exact ⟨xs, ys, hP.2.1.sqT m1, hP.2.1.sqT m2, .inl (Nat.le_refl _)⟩
  · obtain ⟨T, x1, y1, rfl, nT, rfl, ex, ey⟩ : ∃ T x1 y1, x = .ref T ∧ H T = none ∧ H' = upd H T (.tup [x1, y1]) ∧ xs[i]? = some x1 ∧ ys[i]? = some y1 := by
      rcases m with ⟨m1, m2, rfl⟩ | ⟨m1, m2, rfl⟩
      · obtain ⟨T, x1, y1, e1, nT, e2, hx, hy⟩ := hyl
        exact ⟨T, x1, y1, e1, nT, e2, hx _ (hP.2.1.sqL m1), hy _ (hP.2.1.sqL m2)⟩
      · obtain ⟨T, x1, y1, e1, nT, e2, hx, hy⟩ := hyl
        exact ⟨T, x1, y1, e1, nT, e2, hx _ (hP.2.1.sqT m1), hy _ (hP.2.1.sqT m2)⟩
    have gT : Gr K H1 (upd H T (.tup [x1, y1])) := hP.2.1.trans (Ge.new nT)
    have hP2 : upd H T (.tup [x1, y1]) D = some (.lst ((List.range i).map F)) := by rw [upd_ne (ne_of_none hP.2.2 nT)]; exact hP.2.2
    refine hs i x1 y1 T _ (fun y H4 => ∃ acc, H4 D = some (.lst acc) ∧ acc.length < sizeLine ∧ (i + 1 ≤ xs.length ∧ Gr K H1 (upd H4 D (.lst (acc ++ [y]))) ∧ upd H4 D (.lst (acc ++ [y])) D = some (.lst ((List.range (i + 1)).map F)))) ex ey gT upd_same fun H4 g4 => ?_
    refine ⟨_, g4.lst hP2, ?_, hi, (gT.trans g4).put hD (g4.lst hP2) (by intro _ z; cases z) (by intro _ z; cases z), ?_⟩
    · rw [List.length_map, List.length_range]; exact sizedL (by omega)
    · rw [upd_same, range_snoc]
end
section
variable {P : Program} {w : World} {K : PySem.W.Frag} {mg : Str → Option Value} {base : Heap}
/-- equal things, lists and tuples within one another n deep -/
def SameV (K : PySem.W.Frag) : Nat → Hp → V → V → Prop
  | 0, H, x, y => Flat0 K H x y
  | n + 1, H, x, y => Flat0 K H x y ∨
    (∃ (a b : Addr) (xs ys : List V), x = .ref a ∧ y = .ref b ∧ ((H a = some (.lst xs) ∧ H b = some (.lst ys)) ∨ (H a = some (.tup xs) ∧ H b = some (.tup ys))) ∧ xs.length = ys.length ∧ xs.length ≤ 1000 ∧ ∀ (i : Nat) (u v : V), xs[i]? = some u → ys[i]? = some v → SameV K n H u v) ∨
    (1 ≤ n ∧ ∃ a b : Addr, x = .ref a ∧ y = .ref b ∧ H a = some (.dK []) ∧ H b = some (.dK []))
theorem SameV.gr {H H' : Hp} (g : Gr K H H') : ∀ {n : Nat} {x y : V}, SameV K n H x y → SameV K n H' x y
  | 0, _, _, h => Flat0.gr g h
  | n + 1, _, _, h => by
    rcases h with h | ⟨a, b, xs, ys, rfl, rfl, h, e, z, r⟩ | ⟨hn, a, b, rfl, rfl, h1, h2⟩
    · exact .inl (h.gr g)
    · exact .inr (.inl ⟨a, b, xs, ys, rfl, rfl, h.imp (fun h => ⟨g.lst h.1, g.lst h.2⟩) (fun h => ⟨g.tup h.1, g.tup h.2⟩), e, z, fun i u v hu hv => SameV.gr g (r i u v hu hv)⟩)
    · exact .inr (.inr ⟨hn, a, b, rfl, rfl, g.at h1, g.at h2⟩)
def spSame (K : PySem.W.Frag) (n : Nat) : Sp := fun vs H Q _ => ∃ x y : V, vs = [x, y] ∧ SameV K n H x y ∧ ∀ H', Gr K H H' → Q (.bl true) H'
theorem all_true (F : Nat → V) (n : Nat) (h : ∀ i, F i = .bl true) : (List.range n).map F = (List.replicate n true).map V.bl := by
  rw [List.map_replicate, show F = fun _ => V.bl true from funext h]
  induction n with
  | zero => rfl
  | succ n ih => rw [List.range_succ, List.map_append, ih, List.replicate_succ']; rfl
theorem replicate_all (n : Nat) : (List.replicate n true).all id = true := by
  rw [List.all_eq_true]
  intro x hx
  rw [(List.mem_replicate.mp hx).2]; rfl
theorem ok_same0 (X : Txt K mg) : Ok P w K mg base CX0 2 "_law_same" ["_law_found", "_law_due"] (spSame K 0) := by
  refine ok_def0 X 59 rfl sc_law_same (by decide +kernel) (fun vs H Q E h => ?_) (fun _ _ _ _ _ _ us hl => match us, hl with | [_, _], _ => rfl) (fun f cdv A outer s H vs Q E hr h => ?_)
  · obtain ⟨x, y, rfl, _⟩ := h; rfl
  · obtain ⟨x, y, rfl, h, q⟩ := h
    exact same_flat X f cdv A outer s H x y Q E hr h q
set_option maxHeartbeats 8000000 in
theorem ok_same_step {k n : Nat} (X : Txt K mg) (O : Ok P w K mg base CX0 (k + 1) "_law_same" ["_law_found", "_law_due"] (spSame K n)) : Ok P w K mg base CX0 (k + 2) "_law_same" ["_law_found", "_law_due"] (spSame K (n + 1)) := by
  refine ok_def0 X 59 rfl sc_law_same (by decide +kernel) (fun vs H Q E h => ?_) (fun _ _ _ _ _ _ us hl => match us, hl with | [_, _], _ => rfl) (fun f cdv A outer s H vs Q E hr h => ?_)
  · obtain ⟨x, y, rfl, _⟩ := h; rfl
  · obtain ⟨x, y, rfl, h, q⟩ := h
    rcases h with h | ⟨a, b, xs, ys, rfl, rfl, h, e, z, r⟩ | ⟨hn, a, b, rfl, rfl, h1, h2⟩
    · exact same_flat X f cdv A outer s H x y Q E hr h q
    · refine ⟨_, (pss_cons (ps_if (pt_val (pe_callB (isiFT_K (K := K)) (by rfl) X.b_isinstance (by decide +kernel) (pa_cons (pv 1) (pa_cons (pe_tup (pa_cons (pe_bltn (v := .ty "list") (by rfl) X.b_list (by decide +kernel) rfl) (pa_cons (pe_bltn (v := .ty "tuple") (by rfl) X.b_tuple (by decide +kernel) rfl) pa_nil))) pa_nil))))
  (pss_cons (ps_if (PW.pt (pw_or (pt_cmpR op_ne (pe_callB (isiF_K (K := K)) (by rfl) X.b_isinstance (by decide +kernel) (pa_cons (pv 0) (pa_cons (pe_bltn (v := .ty "list") (by rfl) X.b_list (by decide +kernel) rfl) pa_nil))) (pe_callB (isiF_K (K := K)) (by rfl) X.b_isinstance (by decide +kernel) (pa_cons (pv 1) (pa_cons (pe_bltn (v := .ty "list") (by rfl) X.b_list (by decide +kernel) rfl) pa_nil))) (nomark _)) (pw_or1 (pt_cmpR op_ne (pe_callB (isiF_K (K := K)) (by rfl) X.b_isinstance (by decide +kernel) (pa_cons (pv 0) (pa_cons (pe_bltn (v := .ty "tuple") (by rfl) X.b_tuple (by decide +kernel) rfl) pa_nil))) (pe_callB (isiF_K (K := K)) (by rfl) X.b_isinstance (by decide +kernel) (pa_cons (pv 1) (pa_cons (pe_bltn (v := .ty "tuple") (by rfl) X.b_tuple (by decide +kernel) rfl) pa_nil))) (nomark _)))))
  (pss_one (ps_ret pe_bl))
  pss_nil)
  (pss_one (ps_ret (pe_and (pe_cmpR op_eq (pe_callB (len_K (K := K)) (by rfl) X.b_len (by decide +kernel) (pa_cons (pv 0) pa_nil)) (pe_callB (len_K (K := K)) (by rfl) X.b_len (by decide +kernel) (pa_cons (pv 1) pa_nil)) (nomark _)) (pe_one (pe_callB (all_K (K := K)) (by rfl) X.b_all (by decide +kernel) (pa_cons (pe_lc (own := [("_law_x", 2), ("_law_y", 3)]) (g := (gTup K 2 (gCons (gName 2) (gCons (gName 3) gNil)))) (tt := tYes) rfl sc_law_same.nd (piZ_K (K := K) X.b_zip (pa_cons (pv 0) (pa_cons (pv 1) pa_nil))) (blkOk_by (N := ["_law_found", "_law_due", "_law_x", "_law_y"]) (sc := defScope (topS 77)) (by decide +kernel)) (fun _ _ _ _ _ => (tup_K (K := K) (pgs_cons (pg_name (i := 2) sc_law_same.nd rfl (.inl rfl)) (pgs_cons (pg_name (i := 3) sc_law_same.nd rfl (.inl rfl)) pgs_nil)))) (fun _ _ _ _ _ => pts_nil) (fun _ _ _ _ _ => (pe_oS (O) hr pass0 (pa_cons (pv 2) (pa_cons (pv 3) pa_nil))))) pa_nil)))))))
  pss_nil)
  (pss_cons ps_never
  (pss_cons ps_never
  (pss_one ps_never)))), ?_⟩
      refine ⟨_, rfl, by show 2 ≤ sizeLine; decide, fun tp ntp => ?_⟩
      have g1 : Gr K H (upd H tp (.tup [.ty "list", .ty "tuple"])) := Ge.new ntp
      have h1 : upd H tp (.tup [.ty "list", .ty "tuple"]) tp = some (.tup [.ty "list", .ty "tuple"]) := upd_same
      generalize upd H tp (.tup [.ty "list", .ty "tuple"]) = H1 at g1 h1 ⊢
      have r1 : ∀ i u v, xs[i]? = some u → ys[i]? = some v → SameV K n H1 u v := fun i u v hu hv => (r i u v hu hv).gr g1
      rcases h with ⟨ha, hb⟩ | ⟨ha, hb⟩
      · have ha := g1.lst ha
        have hb := g1.lst hb
        refine ⟨_, tp, _, _, _, true, rfl, h1, .cons (.ty _) (.cons (.ty _) .nil), .of (.base (.lst hb)), kit_lt_l, true, rfl, ifT ?_⟩
        refine ⟨_, rfl, _, _, _, _, true, rfl, .ty _, .of (.base (.lst ha)), kit_ty (by decide +kernel), ?_⟩
        refine ⟨_, rfl, _, _, _, _, true, rfl, .ty _, .of (.base (.lst hb)), kit_ty (by decide +kernel), ?_⟩
        refine ⟨rfl, false, (by simp), ifF ?_⟩
        refine ⟨_, rfl, _, _, _, _, false, rfl, .ty _, .of (.base (.lst ha)), kit_ty (by decide +kernel), ?_⟩
        refine ⟨_, rfl, _, _, _, _, false, rfl, .ty _, .of (.base (.lst hb)), kit_ty (by decide +kernel), ?_⟩
        refine ⟨rfl, false, (by simp), ifF ?_⟩
        refine ⟨_, rfl, a, xs, rfl, .inl (.of ha), _, rfl, b, ys, rfl, .inl (.of hb), ?_⟩
        refine ⟨rfl, _, rfl, iteDT (by rw [e]) ?_⟩
        refine ⟨_, rfl, _, rfl, a, b, xs, ys, rfl, .inl ⟨.of ha, .of hb, fun D hD => ?_⟩⟩
        refine lc_zip (K := K) (fun _ => V.bl true) (.inl ⟨.of ha, .of hb, rfl⟩) e hD (by omega) (fun i x y T H4 Q4 hx hy g4 hT q4 => ?_) (fun H4 g4 h4 => ?_)
        · refine ⟨T, _, rfl, .of hT, rfl, _, _, rfl, _, _, rfl, rfl, rfl, _, rfl, _, rfl, x, y, rfl, (r1 i x y hx hy).gr g4, fun H5 g5 => q4 H5 g5⟩
        · rw [all_true _ _ fun _ => rfl] at h4
          refine ⟨D, _, rfl, .of h4, ?_⟩
          rw [replicate_all]
          exact q _ (g1.trans g4)
      · have ha := g1.tup ha
        have hb := g1.tup hb
        refine ⟨_, tp, _, _, _, true, rfl, h1, .cons (.ty _) (.cons (.ty _) .nil), .of (.base (.tup hb)), kit_lt_t, true, rfl, ifT ?_⟩
        refine ⟨_, rfl, _, _, _, _, false, rfl, .ty _, .of (.base (.tup ha)), kit_ty (by decide +kernel), ?_⟩
        refine ⟨_, rfl, _, _, _, _, false, rfl, .ty _, .of (.base (.tup hb)), kit_ty (by decide +kernel), ?_⟩
        refine ⟨rfl, false, (by simp), ifF ?_⟩
        refine ⟨_, rfl, _, _, _, _, true, rfl, .ty _, .of (.base (.tup ha)), kit_ty (by decide +kernel), ?_⟩
        refine ⟨_, rfl, _, _, _, _, true, rfl, .ty _, .of (.base (.tup hb)), kit_ty (by decide +kernel), ?_⟩
        refine ⟨rfl, false, (by simp), ifF ?_⟩
        refine ⟨_, rfl, a, xs, rfl, .inr (.of ha), _, rfl, b, ys, rfl, .inr (.of hb), ?_⟩
        refine ⟨rfl, _, rfl, iteDT (by rw [e]) ?_⟩
        refine ⟨_, rfl, _, rfl, a, b, xs, ys, rfl, .inr ⟨.of ha, .of hb, fun D hD => ?_⟩⟩
        refine lc_zip (K := K) (fun _ => V.bl true) (.inr ⟨.of ha, .of hb, rfl⟩) e hD (by omega) (fun i x y T H4 Q4 hx hy g4 hT q4 => ?_) (fun H4 g4 h4 => ?_)
        · refine ⟨T, _, rfl, .of hT, rfl, _, _, rfl, _, _, rfl, rfl, rfl, _, rfl, _, rfl, x, y, rfl, (r1 i x y hx hy).gr g4, fun H5 g5 => q4 H5 g5⟩
        · rw [all_true _ _ fun _ => rfl] at h4
          refine ⟨D, _, rfl, .of h4, ?_⟩
          rw [replicate_all]
          exact q _ (g1.trans g4)
    · refine ⟨_, (pss_cons (ps_if (pt_val (pe_callB (isiFT_K (K := K)) (by rfl) X.b_isinstance (by decide +kernel) (pa_cons (pv 1) (pa_cons (pe_tup (pa_cons (pe_bltn (v := .ty "list") (by rfl) X.b_list (by decide +kernel) rfl) (pa_cons (pe_bltn (v := .ty "tuple") (by rfl) X.b_tuple (by decide +kernel) rfl) pa_nil))) pa_nil))))
  (pss_cons ps_never (pss_one ps_never))
  pss_nil)
  (pss_cons (ps_if (pt_val (pe_callB (isiF_K (K := K)) (by rfl) X.b_isinstance (by decide +kernel) (pa_cons (pv 1) (pa_cons (pe_bltn (v := .ty "dict") (by rfl) X.b_dict (by decide +kernel) rfl) pa_nil))))
  (pss_one (ps_ret (pe_and (pe_callB (isiF_K (K := K)) (by rfl) X.b_isinstance (by decide +kernel) (pa_cons (pv 0) (pa_cons (pe_bltn (v := .ty "dict") (by rfl) X.b_dict (by decide +kernel) rfl) pa_nil))) (pe_one (pe_oS (O) hr pass0 (pa_cons (pe_callTy (call_listI0 rfl) (by rfl) X.b_list (by decide +kernel) (pa_cons (bm0_K (K := K) PySem.F.plainAttrs_dict PySem.F.slot_dict_items PySem.F.type_dict_items mt_items0 (pv 0)) pa_nil)) (pa_cons (pe_callTy (call_listI0 rfl) (by rfl) X.b_list (by decide +kernel) (pa_cons (bm0_K (K := K) PySem.F.plainAttrs_dict PySem.F.slot_dict_items PySem.F.type_dict_items mt_items0 (pv 1)) pa_nil)) pa_nil)))))))
  pss_nil)
  (pss_cons ps_never
  (pss_one ps_never)))), ?_⟩
      refine ⟨_, rfl, by show 2 ≤ sizeLine; decide, fun tp ntp => ?_⟩
      have g1 : Gr K H (upd H tp (.tup [.ty "list", .ty "tuple"])) := Ge.new ntp
      have t1 : upd H tp (.tup [.ty "list", .ty "tuple"]) tp = some (.tup [.ty "list", .ty "tuple"]) := upd_same
      generalize upd H tp (.tup [.ty "list", .ty "tuple"]) = H1 at g1 t1 ⊢
      have ha := g1.at h1
      have hb := g1.at h2
      refine ⟨_, tp, _, _, _, false, rfl, t1, .cons (.ty _) (.cons (.ty _) .nil), .of (.base (.dK hb)), anyF (kit_ty (by decide +kernel)) (anyF (kit_ty (by decide +kernel)) rfl), false, rfl, ifF ?_⟩
      refine ⟨_, rfl, _, _, _, _, true, rfl, .ty _, .of (.base (.dK hb)), kit_ty (by decide +kernel), true, rfl, ifT ?_⟩
      refine ⟨_, rfl, _, _, _, _, true, rfl, .ty _, .of (.base (.dK ha)), kit_ty (by decide +kernel), true, rfl, ifT ?_⟩
      refine ⟨_, rfl, .inr (.inr (.inl ⟨rfl, .inl ⟨_, ha⟩⟩)), a, rfl, rfl, ha, fun p np => ?_⟩
      have g2 : Gr K H1 (upd H1 p (itemO p a)) := Ge.new np
      have h2' : upd H1 p (itemO p a) p = some (itemO p a) := upd_same
      generalize upd H1 p (itemO p a) = H2 at g2 h2' ⊢
      refine ⟨p, a, rfl, h2', g2.at ha, fun l nl => ?_⟩
      have g3 : Gr K H2 (upd H2 l (.lst [])) := Ge.new nl
      have h3 : upd H2 l (.lst []) l = some (.lst []) := upd_same
      generalize upd H2 l (.lst []) = H3 at g3 h3 ⊢
      have g03 := g2.trans g3
      refine ⟨_, rfl, .inr (.inr (.inl ⟨rfl, .inl ⟨_, g03.at hb⟩⟩)), b, rfl, rfl, g03.at hb, fun p2 np2 => ?_⟩
      have g4 : Gr K H3 (upd H3 p2 (itemO p2 b)) := Ge.new np2
      have h4' : upd H3 p2 (itemO p2 b) p2 = some (itemO p2 b) := upd_same
      generalize upd H3 p2 (itemO p2 b) = H4 at g4 h4' ⊢
      refine ⟨p2, b, rfl, h4', (g03.trans g4).at hb, fun l2 nl2 => ?_⟩
      have g5 : Gr K H4 (upd H4 l2 (.lst [])) := Ge.new nl2
      have h5 : upd H4 l2 (.lst []) l2 = some (.lst []) := upd_same
      generalize upd H4 l2 (.lst []) = H5 at g5 h5 ⊢
      refine ⟨.ref l, .ref l2, rfl, ?_, fun H6 g6 => q _ ((((g1.trans g03).trans g4).trans g5).trans g6)⟩
      obtain ⟨m, rfl⟩ : ∃ m, n = m + 1 := ⟨n - 1, by omega⟩
      exact .inr (.inl ⟨l, l2, [], [], rfl, rfl, .inl ⟨(g4.trans g5).lst h3, h5⟩, rfl, by simp, fun i u v hu _ => by simp at hu⟩)
theorem ok_same1 (X : Txt K mg) : Ok P w K mg base CX0 3 "_law_same" ["_law_found", "_law_due"] (spSame K 1) := ok_same_step X (ok_same0 X)
theorem ok_same2 (X : Txt K mg) : Ok P w K mg base CX0 4 "_law_same" ["_law_found", "_law_due"] (spSame K 2) := ok_same_step X (ok_same1 X)
theorem ok_same3 (X : Txt K mg) : Ok P w K mg base CX0 5 "_law_same" ["_law_found", "_law_due"] (spSame K 3) := ok_same_step X (ok_same2 X)
end
end K17
set_option linter.all false
/-! Rows' mathematics, P: what turning a pair gives. -/
namespace RW
section
variable {f g s m h cl : Nat → Int} {wf wg ws wm wh wc : Nat → Nat}
theorem IsW.at0 (h : IsW f wf) (f0 : 0 ≤ f 0) : wf 0 = 0 := by
  have := h.le (c := 0) (n := 0) (by omega)
  omega
theorem IsW.ge (h : IsW f wf) {c n : Nat} (hn : n < wf c) : f n < c := (h c).2 n hn
/-- when of the greatest split -/
theorem w_conv (hf : IsW f wf) (hg : IsW g wg) (hs : IsW s ws) (mf : Mono f) (mg : Mono g) (f0 : 0 ≤ f 0) (g0 : 0 ≤ g 0) (sc : ∀ n, IsConv (fun n => - f n) (fun n => - g n) n (- s n)) (c : Nat) :
    IsConv (fun c => (wf c : Int)) (fun c => (wg c : Int)) c (ws c : Int) := by
  have up : ∀ i, i ≤ c → ws c ≤ wf i + wg (c - i) := fun i hi => by
    refine hs.le ?_
    have a := (sc (wf i + wg (c - i))).2 (wf i) (by omega)
    simp only [Nat.add_sub_cancel_left] at a
    have b := (hf i).1
    have d := (hg (c - i)).1
    omega
  refine ⟨?_, fun i hi => ?_⟩
  · obtain ⟨⟨i, hi, e⟩, _⟩ := sc (ws c)
    have hc := (hs c).1
    have fi := Int.le_trans f0 (mf.le (Nat.zero_le i))
    have gi := Int.le_trans g0 (mg.le (Nat.zero_le (ws c - i)))
    simp only at e
    by_cases z : (c : Int) ≤ f i
    · have a := hf.le z
      have b := hg.le (c := 0) (n := ws c - i) (by omega)
      have u := up c (Nat.le_refl _)
      refine ⟨c, Nat.le_refl _, ?_⟩
      simp only [Nat.sub_self] at u ⊢
      omega
    · obtain ⟨p, hp⟩ : ∃ p : Nat, f i = p := ⟨(f i).toNat, by omega⟩
      have a := hf.le (c := p) (n := i) (by omega)
      have b := hg.le (c := c - p) (n := ws c - i) (by omega)
      have u := up p (by omega)
      refine ⟨p, by omega, ?_⟩
      simp only
      omega
  · have := up i hi
    simp only
    omega
/-- when of the greatest of two -/
theorem w_max (hf : IsW f wf) (hg : IsW g wg) (hs : IsW s ws) (sm : ∀ n, (s n = f n ∨ s n = g n) ∧ f n ≤ s n ∧ g n ≤ s n) (c : Nat) :
    (ws c = wf c ∨ ws c = wg c) ∧ ws c ≤ wf c ∧ ws c ≤ wg c := by
  have a : ws c ≤ wf c := hs.le (by have := (hf c).1; have := (sm (wf c)).2.1; omega)
  have b : ws c ≤ wg c := hs.le (by have := (hg c).1; have := (sm (wg c)).2.2; omega)
  refine ⟨?_, a, b⟩
  have k := (hs c).1
  rcases (sm (ws c)).1 with e | e
  · have := hf.le (c := c) (n := ws c) (by omega)
    exact .inl (by omega)
  · have := hg.le (c := c) (n := ws c) (by omega)
    exact .inr (by omega)
/-- the last place: so many is reached at w (c + 1) - 1 -/
theorem last_le (hf : IsW f wf) (mf : Mono f) (f0 : f 0 = 0) (c : Nat) : 1 ≤ wf (c + 1) ∧ f (wf (c + 1) - 1) ≤ c ∧ ∀ n, f n ≤ c → n ≤ wf (c + 1) - 1 := by
  have h1 : 1 ≤ wf (c + 1) := by
    apply Classical.byContradiction
    intro z
    have := (hf (c + 1)).1
    rw [show wf (c + 1) = 0 by omega, f0] at this
    omega
  refine ⟨h1, ?_, fun n hn => ?_⟩
  · have := (hf (c + 1)).2 (wf (c + 1) - 1) (by omega)
    omega
  · apply Classical.byContradiction
    intro z
    have a := (hf (c + 1)).1
    have := mf.le (i := wf (c + 1)) (j := n) (by omega)
    omega
/-- last of the least split -/
theorem l_conv (hf : IsW f wf) (hg : IsW g wg) (hm : IsW m wm) (mf : Mono f) (mg : Mono g) (mm : Mono m) (f0 : f 0 = 0) (g0 : g 0 = 0) (m0 : m 0 = 0) (mc : ∀ n, IsConv f g n (m n)) (c : Nat) :
    IsConv (fun c => - ((wf (c + 1) : Int) - 1)) (fun c => - ((wg (c + 1) : Int) - 1)) c (- ((wm (c + 1) : Int) - 1)) := by
  have lm := last_le hm mm m0 c
  have up : ∀ i, i ≤ c → (wf (i + 1) - 1) + (wg (c - i + 1) - 1) ≤ wm (c + 1) - 1 := fun i hi => by
    have lf := last_le hf mf f0 i
    have lg := last_le hg mg g0 (c - i)
    refine lm.2.2 _ ?_
    have a := (mc ((wf (i + 1) - 1) + (wg (c - i + 1) - 1))).2 (wf (i + 1) - 1) (by omega)
    rw [Nat.add_sub_cancel_left] at a
    have := lf.2.1
    have := lg.2.1
    omega
  refine ⟨?_, fun i hi => ?_⟩
  · obtain ⟨⟨i, hi, e⟩, _⟩ := mc (wm (c + 1) - 1)
    have hc := lm.2.1
    have fi := mf.le (Nat.zero_le i)
    have gi := mg.le (Nat.zero_le (wm (c + 1) - 1 - i))
    obtain ⟨p, hp⟩ : ∃ p : Nat, f i = p := ⟨(f i).toNat, by omega⟩
    have lf := last_le hf mf f0 p
    have lg := last_le hg mg g0 (c - p)
    have a := lf.2.2 i (by omega)
    have b := lg.2.2 (wm (c + 1) - 1 - i) (by omega)
    have u := up p (by omega)
    refine ⟨p, by omega, ?_⟩
    simp only
    omega
  · have := up i hi
    have lf := last_le hf mf f0 i
    have lg := last_le hg mg g0 (c - i)
    simp only
    omega
/-- last of the least of two -/
theorem l_min (hf : IsW f wf) (hg : IsW g wg) (hm : IsW m wm) (mf : Mono f) (mg : Mono g) (mm : Mono m) (f0 : f 0 = 0) (g0 : g 0 = 0) (m0 : m 0 = 0) (sm : ∀ n, (m n = f n ∨ m n = g n) ∧ m n ≤ f n ∧ m n ≤ g n) (c : Nat) :
    (wm c = wf c ∨ wm c = wg c) ∧ wf c ≤ wm c ∧ wg c ≤ wm c := by
  have k := (hm c).1
  have a : wf c ≤ wm c := hf.le (by have := (sm (wm c)).2.1; omega)
  have b : wg c ≤ wm c := hg.le (by have := (sm (wm c)).2.2; omega)
  refine ⟨?_, a, b⟩
  apply Classical.byContradiction
  intro z
  have hlt : wf c < wm c ∧ wg c < wm c := by omega
  have x := (hf c).1
  have y := (hg c).1
  have w1 := (hm c).2 (max (wf c) (wg c)) (by omega)
  have w2 := mf.le (i := wf c) (j := max (wf c) (wg c)) (by omega)
  have w3 := mg.le (i := wg c) (j := max (wf c) (wg c)) (by omega)
  rcases (sm (max (wf c) (wg c))).1 with e | e <;> omega
/-- when of the held one closes when -/
theorem w_held (hf : IsW f wf) (hh : IsW h wh) (mf : Mono f) (mh : Mono h) (f0 : f 0 = 0) (hc : IsCl (fun n => - f n) (fun n => - h n)) : IsCl (fun c => (wf c : Int)) (fun c => (wh c : Int)) := by
  have h0 : h 0 = 0 := by have := hc.1; simp only at this; omega
  have w0 : wh 0 = 0 := hh.at0 (by omega)
  refine ⟨by simp [w0], fun c c1 => ?_⟩
  have f1 : ∀ p, 1 ≤ p → 1 ≤ wf p := fun p hp => by
    apply Classical.byContradiction
    intro z
    have := (hf p).1
    rw [show wf p = 0 by omega, f0] at this
    omega
  have up : ∀ p, 1 ≤ p → p ≤ c → wh c ≤ wf p + wh (c - p) := fun p p1 pc => by
    refine hh.le ?_
    have := f1 p p1
    have a := (hc.2 (wf p + wh (c - p)) (by omega)).2 (wf p) this (by omega)
    simp only [Nat.add_sub_cancel_left] at a
    have b := (hf p).1
    have d := (hh (c - p)).1
    omega
  have n1 : 1 ≤ wh c := by
    apply Classical.byContradiction
    intro z
    have := (hh c).1
    rw [show wh c = 0 by omega, h0] at this
    omega
  refine ⟨?_, fun p p1 pc => ?_⟩
  · obtain ⟨⟨q, q1, qn, e⟩, _⟩ := hc.2 (wh c) n1
    simp only at e
    have hn := (hh c).1
    have lt := (hh c).2 (wh c - q) (by omega)
    have fq := mf.le (Nat.zero_le q)
    have hq := mh.le (Nat.zero_le (wh c - q))
    by_cases z : (c : Int) ≤ f q
    · have a := hf.le z
      have u := up c c1 (Nat.le_refl _)
      refine ⟨c, c1, Nat.le_refl _, ?_⟩
      simp only [Nat.sub_self, w0] at u ⊢
      omega
    · obtain ⟨p, hp⟩ : ∃ p : Nat, f q = p := ⟨(f q).toNat, by omega⟩
      have a := hf.le (c := p) (n := q) (by omega)
      have b := hh.le (c := c - p) (n := wh c - q) (by omega)
      have u := up p (by omega) (by omega)
      refine ⟨p, by omega, by omega, ?_⟩
      simp only
      omega
  · have := up p p1 pc
    simp only
    omega
/-- last of the closed one holds last -/
theorem l_closed (hf : IsW f wf) (hcl : IsW cl wc) (mf : Mono f) (mc : Mono cl) (f0 : f 0 = 0) (f1 : 1 ≤ f 1) (hc : IsCl f cl) (c1 : 1 ≤ cl 1) : IsCl (fun c => - ((wf (c + 1) : Int) - 1)) (fun c => - ((wc (c + 1) : Int) - 1)) := by
  have k0 := hc.1
  have L0 : wc (0 + 1) = 1 := by
    have a := last_le hcl mc k0 0
    have b := hcl.le (c := 0 + 1) (n := 1) (by omega)
    omega
  refine ⟨by simp only [L0]; rfl, fun c cc => ?_⟩
  have lc := last_le hcl mc k0 c
  have up : ∀ p, 1 ≤ p → p ≤ c → (wf (p + 1) - 1) + (wc (c - p + 1) - 1) ≤ wc (c + 1) - 1 := fun p p1 pc => by
    have lf := last_le hf mf f0 p
    have lr := last_le hcl mc k0 (c - p)
    refine lc.2.2 _ ?_
    have s := hc.sub (wf (p + 1) - 1) (wc (c - p + 1) - 1)
    have le : cl (wf (p + 1) - 1) ≤ p := by
      by_cases z : wf (p + 1) - 1 = 0
      · rw [z, k0]; omega
      · have := hc.le (n := wf (p + 1) - 1) (by omega)
        have := lf.2.1
        omega
    have := lr.2.1
    omega
  refine ⟨?_, fun p p1 pc => ?_⟩
  · by_cases z : wc (c + 1) - 1 = 0
    · have u := up c cc (Nat.le_refl _)
      have lf := last_le hf mf f0 c
      refine ⟨c, cc, Nat.le_refl _, ?_⟩
      simp only [Nat.sub_self, Nat.zero_add] at u ⊢
      rw [show wc 1 = 1 from L0] at u ⊢
      omega
    · obtain ⟨⟨q, q1, qn, e⟩, _⟩ := hc.2 (wc (c + 1) - 1) (by omega)
      have fq := mf.le q1
      have cq := mc.le (Nat.zero_le (wc (c + 1) - 1 - q))
      obtain ⟨p, hp⟩ : ∃ p : Nat, f q = p := ⟨(f q).toNat, by omega⟩
      have k := lc.2.1
      have lf := last_le hf mf f0 p
      have lr := last_le hcl mc k0 (c - p)
      have a := lf.2.2 q (by omega)
      have b := lr.2.2 (wc (c + 1) - 1 - q) (by omega)
      have u := up p (by omega) (by omega)
      refine ⟨p, by omega, by omega, ?_⟩
      simp only
      omega
  · have u := up p p1 pc
    have lf := last_le hf mf f0 p
    have lr := last_le hcl mc k0 (c - p)
    simp only
    omega
end
end RW
set_option linter.all false
/-! Rows' mathematics, Q: how large the rows are that the law's counting rows lead to. -/
namespace RW
/-- splits go on as the slower one -/
theorem conv_gains {f g m : Nat → Int} {M N D : Nat} {G1 G2 : Int} (hM : 0 < M) (hf : Gains f M G1 N) (hg : Gains g M G2 N) (hG : G1 ≤ G2) (hD : ∀ i : Nat, i < N → f (i + N * M) ≤ f i + N * G2 + D) (mc : ∀ n, IsConv f g n (m n)) : Gains m M G1 (2 * N + (N + D + 1) * M) := fun n hn => by
  have e0 : (N + D + 1) * M = (N + D) * M + M := by rw [Nat.add_mul, Nat.one_mul]
  apply Int.le_antisymm
  · obtain ⟨⟨i, hi, e⟩, _⟩ := mc n
    by_cases z : N ≤ i
    · have a := (mc (n + M)).2 (i + M) (by omega)
      rw [show n + M - (i + M) = n - i by omega, hf i z] at a
      omega
    · by_cases q : G1 = G2
      · have a := (mc (n + M)).2 i (by omega)
        rw [show n + M - i = n - i + M by omega, hg (n - i) (by omega)] at a
        omega
      · have hN : N ≤ N * M := Nat.le_mul_of_pos_right N hM
        have e1 : (N + D) * M = N * M + D * M := Nat.add_mul _ _ _
        have e2 : (D + 1) * M = D * M + M := by rw [Nat.add_mul, Nat.one_mul]
        have a := (mc (n + M)).2 (i + N * M + (D + 1) * M) (by omega)
        have b := hf.many (D + 1) (n := i + N * M) (by omega)
        have c := hg.many (N + D) (n := n + M - (i + N * M + (D + 1) * M)) (by omega)
        rw [show n + M - (i + N * M + (D + 1) * M) + (N + D) * M = n - i by omega] at c
        have d := hD i (by omega)
        have k : (D : Int) * 1 ≤ D * (G2 - G1) := Int.mul_le_mul_of_nonneg_left (by omega) (by omega)
        rw [Int.mul_sub] at k
        have k1 : ((N + D : Nat) : Int) * G2 = N * G2 + D * G2 := by rw [Int.natCast_add, Int.add_mul]
        have k2 : ((D + 1 : Nat) : Int) * G1 = D * G1 + G1 := by rw [Int.natCast_add, Int.add_mul]; simp
        omega
  · obtain ⟨⟨i, hi, e⟩, _⟩ := mc (n + M)
    by_cases z : N + M ≤ i
    · have a := (mc n).2 (i - M) (by omega)
      have b := hf (i - M) (by omega)
      rw [show i - M + M = i by omega] at b
      rw [show n - (i - M) = n + M - i by omega] at a
      omega
    · have a := (mc n).2 i (by omega)
      have b := hg (n - i) (by omega)
      rw [show n - i + M = n + M - i by omega] at b
      omega
/-- a counting row of the law -/
structure Cn (f : Nat → Int) (M N g : Nat) : Prop where
  mono : Mono f
  m0 : 0 < M
  m3 : M ≤ 3
  n3 : N ≤ 3
  g0 : 0 < g
  g12 : g ≤ 12
  ga : Gains f M g N
  f0 : 0 ≤ f 0
  top : f N ≤ 12
/-- what is when or last of one -/
structure Wn (v : Nat → Int) (g M : Nat) : Prop where
  m0 : 0 < M
  m3 : M ≤ 3
  g0 : 0 < g
  g12 : g ≤ 12
  ga : Gains v g M 13
  lo : ∀ n, 0 ≤ v n
  bd : ∀ n : Nat, v n ≤ 5 + 3 * n
section
variable {f f' h cl s : Nat → Int} {M N g M' N' g' : Nat} {wf : Nat → Nat}
theorem Cn.nn (c : Cn f M N g) (n : Nat) : 0 ≤ f n := Int.le_trans c.f0 (c.mono.le (Nat.zero_le n))
theorem Cn.bd (c : Cn f M N g) (n : Nat) : f n ≤ 12 + 12 * n := by
  have a := c.ga.many n (Nat.le_refl N)
  have b := c.mono.le (i := n) (j := N + n * M) (by have := Nat.le_mul_of_pos_right n c.m0; omega)
  have d : (n : Int) * g ≤ n * 12 := Int.mul_le_mul_of_nonneg_left (by have := c.g12; omega) (by omega)
  have := c.top
  omega
theorem Cn.grow (c : Cn f M N g) (k : Int) : ∃ n, k ≤ f n := grows c.ga (by have := c.g0; omega) k
theorem Cn.wbd (c : Cn f M N g) (h : IsW f wf) (n : Nat) : wf n ≤ 3 + 3 * n := by
  have a := c.ga.many n (Nat.le_refl N)
  have d : (n : Int) * 1 ≤ n * g := Int.mul_le_mul_of_nonneg_left (by have := c.g0; omega) (by omega)
  have b := c.nn N
  have e := h.le (c := n) (n := N + n * M) (by omega)
  have : n * M ≤ n * 3 := Nat.mul_le_mul_left n c.m3
  have := c.n3
  omega
theorem Cn.w (c : Cn f M N g) (h : IsW f wf) : Wn (fun c => (wf c : Int)) g M :=
  ⟨c.m0, c.m3, c.g0, c.g12, h.gains c.mono c.ga (by have := c.top; omega), fun n => Int.natCast_nonneg _, fun n => by have := c.wbd h n; (try simp only); omega⟩
theorem Cn.l (c : Cn f M N g) (h : IsW f wf) (f0 : f 0 = 0) : Wn (fun c => (wf (c + 1) : Int) - 1) g M :=
  ⟨c.m0, c.m3, c.g0, c.g12, fun n hn => by
      have := h.gains c.mono c.ga (C := 13) (by have := c.top; omega) (n + 1) (by omega)
      rw [show n + g + 1 = n + 1 + g by omega]
      try simp only at this ⊢
      omega, fun n => by have := (last_le h c.mono f0 n).1; (try simp only); omega, fun n => by have := c.wbd h (n + 1); (try simp only); omega⟩
theorem Wn.bd2 (v : Wn f g M) (n : Nat) {k : Nat} (hn : n ≤ k) : f n ≤ 5 + 3 * k := by have := v.bd n; omega
/-- two rows with a common round -/
theorem Cn.both (c : Cn f M N g) (c' : Cn f' M' N' g') : 0 < M * M' ∧ M * M' ≤ 9 ∧ Gains f (M * M') ((M' * g : Nat) : Int) 3 ∧ Gains f' (M * M') ((M * g' : Nat) : Int) 3 ∧ M' * g ≤ 36 ∧ M * g' ≤ 36 := by
  refine ⟨Nat.mul_pos c.m0 c'.m0, Nat.mul_le_mul c.m3 c'.m3, ?_, ?_, Nat.mul_le_mul c'.m3 c.g12, Nat.mul_le_mul c.m3 c'.g12⟩
  · rw [Int.natCast_mul]; exact (c.ga.mul' M').mono c.n3
  · rw [Int.natCast_mul]; exact (c'.ga.mul M).mono c'.n3
theorem Wn.both (c : Wn f g M) (c' : Wn f' g' M') : 0 < g * g' ∧ g * g' ≤ 144 ∧ Gains f (g * g') ((g' * M : Nat) : Int) 13 ∧ Gains f' (g * g') ((g * M' : Nat) : Int) 13 := by
  refine ⟨Nat.mul_pos c.g0 c'.g0, Nat.mul_le_mul c.g12 c'.g12, ?_, ?_⟩
  · rw [Int.natCast_mul]; exact c.ga.mul' g'
  · rw [Int.natCast_mul]; exact c'.ga.mul g
/-- the greatest split -/
theorem sup_mono (mf : Mono f) (mg : Mono f') (sc : ∀ n, IsConv (fun n => - f n) (fun n => - f' n) n (- s n)) : Mono s := fun n => by
  obtain ⟨⟨i, hi, e⟩, _⟩ := sc n
  have a := (sc (n + 1)).2 i (by omega)
  have b := mg (n - i)
  rw [show n + 1 - i = n - i + 1 by omega] at a
  try simp only at a e
  omega
theorem sup_gains (c : Cn f M N g) (c' : Cn f' M' N' g') (sc : ∀ n, IsConv (fun n => - f n) (fun n => - f' n) n (- s n)) : ∃ G, Gains s (M * M') G 4000 := by
  obtain ⟨m0, m9, ga, ga', z, z'⟩ := c.both c'
  have key : ∀ {f f' : Nat → Int} {A B : Nat}, Mono f → Mono f' → Gains f (M * M') A 3 → Gains f' (M * M') B 3 → A ≤ 36 → B ≤ 36 → B ≤ A → (∀ n, IsConv (fun n => - f n) (fun n => - f' n) n (- s n)) → ∃ G, Gains s (M * M') G 4000 := by
    intro f f' A B mf mg ga ga' hA hB hle sc
    have := conv_gains (f := fun n => - f n) (g := fun n => - f' n) (m := fun n => - s n) (D := 108) m0 ga.neg ga'.neg (by omega) (fun i hi => by
      have := mf.le (i := i) (j := i + 3 * (M * M')) (by omega)
      (try simp only); omega) sc
    refine ⟨A, ?_⟩
    have g2 := (this.neg).mono (M := 4000) (by omega)
    intro n hn
    have := g2 n hn
    try simp only at this
    omega
  by_cases hle : M * g' ≤ M' * g
  · exact key c.mono c'.mono ga ga' z z' hle sc
  · exact key c'.mono c.mono ga' ga z' z (by omega) fun n => (sc n).comm
/-- the least split -/
theorem inf_mono (mf : Mono f) (mg : Mono f') (sc : ∀ n, IsConv f f' n (s n)) : Mono s := fun n => by
  obtain ⟨⟨i, hi, e⟩, _⟩ := sc (n + 1)
  by_cases z : i = 0
  · subst z
    have a := (sc n).2 0 (by omega)
    have b := mg n
    simp only [Nat.sub_zero] at a e
    omega
  · have a := (sc n).2 (i - 1) (by omega)
    have b := mf (i - 1)
    rw [show i - 1 + 1 = i by omega] at b
    rw [show n - (i - 1) = n + 1 - i by omega] at a
    omega
theorem inf_gains (c : Cn f M N g) (c' : Cn f' M' N' g') (sc : ∀ n, IsConv f f' n (s n)) : ∃ G, Gains s (M * M') G 4000 := by
  obtain ⟨m0, m9, ga, ga', z, z'⟩ := c.both c'
  have key : ∀ {f f' : Nat → Int} {A B : Nat}, (∀ n, 0 ≤ f n) → (∀ n : Nat, f n ≤ 12 + 12 * n) → Gains f (M * M') A 3 → Gains f' (M * M') B 3 → A ≤ B → (∀ n, IsConv f f' n (s n)) → ∃ G, Gains s (M * M') G 4000 := by
    intro f f' A B lo bd ga ga' hle sc
    exact ⟨A, (conv_gains (D := 400) m0 ga ga' (by omega) (fun i hi => by
      have := lo i
      have := bd (i + 3 * (M * M'))
      omega) sc).mono (by omega)⟩
  by_cases hle : M' * g ≤ M * g'
  · exact key c.nn c.bd ga ga' hle sc
  · exact key c'.nn c'.bd ga' ga (by omega) fun n => (sc n).comm
theorem inf_grow (lo : ∀ n, 0 ≤ f n) (lo' : ∀ n, 0 ≤ f' n) (mf : Mono f) (mg : Mono f') (gf : ∀ k : Int, ∃ n, k ≤ f n) (gg : ∀ k : Int, ∃ n, k ≤ f' n) (sc : ∀ n, IsConv f f' n (s n)) (k : Int) : ∃ n, k ≤ s n := by
  obtain ⟨a, ha⟩ := gf k
  obtain ⟨b, hb⟩ := gg k
  refine ⟨a + b, ?_⟩
  obtain ⟨⟨i, hi, e⟩, _⟩ := sc (a + b)
  have := lo i
  have := lo' (a + b - i)
  by_cases z : a ≤ i
  · have := mf.le z
    omega
  · have := mg.le (i := b) (j := a + b - i) (by omega)
    omega
/-- the held one -/
theorem held_mono (lo : ∀ n, 0 ≤ f n) (mf : Mono f) (hc : IsCl (fun n => - f n) (fun n => - h n)) : Mono h := fun n => by
  have h0 := hc.1
  try simp only at h0
  by_cases z : n = 0
  · subst z
    have a := hc.le (n := 1) (by omega)
    have := lo 1
    try simp only at a
    rw [Nat.zero_add]
    omega
  · obtain ⟨⟨p, p1, pn, e⟩, _⟩ := hc.2 n (by omega)
    have a := (hc.2 (n + 1) (by omega)).2 (p + 1) (by omega) (by omega)
    have b := mf p
    rw [show n + 1 - (p + 1) = n - p by omega] at a
    try simp only at a e
    omega
theorem held_bd (bd : ∀ n : Nat, f n ≤ 12 + 12 * n) (hc : IsCl (fun n => - f n) (fun n => - h n)) (n : Nat) : h n ≤ 24 * n := by
  induction n using Nat.strongRecOn with
  | ind n ih =>
    have h0 := hc.1
    try simp only at h0
    by_cases z : n = 0
    · subst z; omega
    · obtain ⟨⟨p, p1, pn, e⟩, _⟩ := hc.2 n (by omega)
      have a := ih (n - p) (by omega)
      have b := bd p
      try simp only at e
      omega
theorem held_grow (mf : Mono f) (gf : ∀ k : Int, ∃ n, k ≤ f n) (hc : IsCl (fun n => - f n) (fun n => - h n)) (k : Int) : ∃ n, k ≤ h n := by
  obtain ⟨n, hn⟩ := gf k
  refine ⟨n + 1, ?_⟩
  have a := hc.le (n := n + 1) (by omega)
  have b := mf n
  try simp only at a
  omega
/-- the closed one -/
theorem Cn.six (c : Cn f M N g) (f1 : 1 ≤ f 1) (n : Nat) : (n : Int) ≤ 6 * f n := by
  induction n using Nat.strongRecOn with
  | ind n ih =>
    by_cases z : n = 0
    · subst z; have := c.f0; omega
    · by_cases q : n ≤ 6
      · have := c.mono.le (i := 1) (j := n) (by omega)
        omega
      · have := c.m0
        have := c.m3
        have := c.n3
        have := c.g0
        have a := ih (n - M) (by omega)
        have b := c.ga (n - M) (by omega)
        rw [show n - M + M = n by omega] at b
        omega
theorem cl_six (six : ∀ n : Nat, (n : Int) ≤ 6 * f n) (hc : IsCl f cl) (n : Nat) : (n : Int) ≤ 6 * cl n := by
  induction n using Nat.strongRecOn with
  | ind n ih =>
    by_cases z : n = 0
    · subst z; rw [hc.1]; omega
    · obtain ⟨⟨p, p1, pn, e⟩, _⟩ := hc.2 n (by omega)
      have a := ih (n - p) (by omega)
      have b := six p
      omega
theorem cl_mono (lo : ∀ n, 0 ≤ f n) (mf : Mono f) (hc : IsCl f cl) : Mono cl := fun n => by
  obtain ⟨⟨p, p1, pn, e⟩, _⟩ := hc.2 (n + 1) (by omega)
  by_cases z : p = 1
  · subst z
    have := lo 1
    rw [Nat.add_sub_cancel] at e
    omega
  · have a := (hc.2 n (by omega)).2 (p - 1) (by omega) (by omega)
    have b := mf (p - 1)
    rw [show p - 1 + 1 = p by omega] at b
    rw [show n - (p - 1) = n + 1 - p by omega] at a
    omega
end
end RW
set_option Elab.async false
set_option linter.all false
set_option maxRecDepth 100000
set_option maxHeartbeats 4000000
/-! what the walked functions ask of the rows that the law's counting rows lead to -/
namespace K17
open PySem PySem.Spec PyProof.Rows L2 LamX
open RW (Cn Wn Gains IsW IsConv IsCl)
section
variable {f f' s : Nat → Int} {M N g M' N' g' Z : Nat} {hs cs : List Int} {gg first : Int}
theorem Risen.cn (r : Risen hs cs gg first) (hg : 0 < gg) (f0 : 0 ≤ first) : Cn (tri hs cs gg) cs.length hs.length gg.toNat := by
  have e : (gg.toNat : Int) = gg := by omega
  refine ⟨r.mono, r.c0, r.c3, r.h3, by omega, by have := r.g12; omega, by rw [e]; exact RW.ev_gains (t := ⟨hs, cs, gg⟩) r.c0, by rw [r.at0]; exact f0, ?_⟩
  show RW.ev ⟨hs, cs, gg⟩ hs.length ≤ 12
  rw [RW.ev_high (Nat.le_refl _), Nat.sub_self, RW.evc_low r.c0, RW.getD_lt r.c0]
  exact (r.c12 _ (List.getElem_mem _)).2
theorem _root_.RW.Cn.rising (c : Cn f M N g) : Rising f := ⟨c.f0, c.mono⟩
theorem goes_mono (h : Goes f Z) {Y : Nat} (k : Z ≤ Y) : Goes f Y := by
  obtain ⟨M, N, G, a, b, c⟩ := h
  exact ⟨M, N, G, a, b, by omega⟩
theorem when_ok (m : Mono s) (gr : ∀ k : Int, ∃ n, k ≤ s n) (go : Goes s Z) (bd : ∀ n, n ≤ Z → s n ≤ 7000000) (hz : Z ≤ 7000000) : WhenOk s := by
  obtain ⟨M, N, G, hM, ga, z⟩ := go
  refine ⟨M, N, G, hM, ga, ?_, ?_, by omega⟩
  · apply Classical.byContradiction
    intro q
    obtain ⟨n, hn⟩ := gr (s N + 1)
    have a := ga.many n (Nat.le_refl N)
    have b := m.le (i := n) (j := N + n * M) (by have := Nat.le_mul_of_pos_right n hM; omega)
    have d : (n : Int) * G ≤ n * 0 := Int.mul_le_mul_of_nonneg_left (by omega) (by omega)
    omega
  · rw [← ga N (Nat.le_refl N)]
    exact bd _ z
theorem _root_.RW.Cn.whenOk (c : Cn f M N g) : WhenOk f :=
  when_ok (Z := 6) c.mono c.grow ⟨M, N, g, c.m0, c.ga, by have := c.m3; have := c.n3; omega⟩ (fun n hn => by have := c.bd n; omega) (by omega)
theorem _root_.RW.Cn.splitOk (c : Cn f M N g) (c' : Cn f' M' N' g') : SplitOk f f' := by
  obtain ⟨m0, m9, ga, ga', z, z'⟩ := c.both c'
  refine ⟨M * M', 3, 600, _, _, m0, ga, ga', fun n hn => ?_, by omega⟩
  have := c.bd n
  have := c'.bd n
  have := c.nn n
  have := c'.nn n
  omega
theorem _root_.RW.Wn.splitOk (c : Wn f g M) (c' : Wn f' g' M') : SplitOk f f' := by
  obtain ⟨m0, m9, ga, ga'⟩ := c.both c'
  refine ⟨g * g', 13, 1900, _, _, m0, ga, ga', fun n hn => ?_, by omega⟩
  have := c.bd n
  have := c'.bd n
  have := c.lo n
  have := c'.lo n
  omega
theorem fam2 {m n0 L : Nat} {A B : Int} (m0 : 0 < m) (ga : Gains f m A n0) (gb : Gains f' m B n0) (bd : n0 + m + L * m + m ≤ 8000000) (h : ∀ n, n < n0 + m + m → 0 ≤ f n ∧ f n ≤ L ∧ 0 ≤ f' n ∧ f' n ≤ L) : Fam [f, f'] m n0 L A B ∧ Fam [negF f, negF f'] m n0 L (-A) (-B) := by
  refine ⟨⟨m0, bd, fun x hx => ?_, .inr fun x hx y hy n hn => ?_⟩, ⟨m0, bd, fun x hx => ?_, .inr fun x hx y hy n hn => ?_⟩⟩
  · simp only [List.mem_cons, List.not_mem_nil, or_false] at hx
    rcases hx with rfl | rfl
    · exact .inl ga
    · exact .inr gb
  · have := h n hn
    simp only [List.mem_cons, List.not_mem_nil, or_false] at hx hy
    rcases hx with rfl | rfl <;> rcases hy with rfl | rfl <;> omega
  · simp only [List.mem_cons, List.not_mem_nil, or_false] at hx
    rcases hx with rfl | rfl
    · exact .inl ga.neg
    · exact .inr gb.neg
  · have := h n hn
    simp only [List.mem_cons, List.not_mem_nil, or_false] at hx hy
    rcases hx with rfl | rfl <;> rcases hy with rfl | rfl <;> simp only [negF] <;> omega
theorem _root_.RW.Cn.fam (c : Cn f M N g) (c' : Cn f' M' N' g') : ∃ m A B, m ≤ 9 ∧ Fam [f, f'] m 3 300 A B ∧ Fam [negF f, negF f'] m 3 300 (-A) (-B) := by
  obtain ⟨m0, m9, ga, ga', z, z'⟩ := c.both c'
  refine ⟨M * M', _, _, m9, fam2 m0 ga ga' (by omega) fun n hn => ?_⟩
  have := c.bd n
  have := c'.bd n
  exact ⟨c.nn n, by omega, c'.nn n, by omega⟩
theorem _root_.RW.Wn.fam (c : Wn f g M) (c' : Wn f' g' M') : ∃ m A B, Fam [f, f'] m 13 1000 A B ∧ Fam [negF f, negF f'] m 13 1000 (-A) (-B) := by
  obtain ⟨m0, m9, ga, ga'⟩ := c.both c'
  refine ⟨g * g', _, _, fam2 m0 ga ga' (by omega) fun n hn => ?_⟩
  have := c.bd n
  have := c'.bd n
  exact ⟨c.lo n, by omega, c'.lo n, by omega⟩
theorem clOk_of {m n0 B Z : Nat} {G : Int} (m0 : 0 < m) (ga : Gains f m G n0) (nb : ∀ n, n ≤ n0 + m + 1 → 0 ≤ f n ∧ f n ≤ B) (h1 : n0 ≤ 900) (h2 : m ≤ 900) (h3 : m * B + 2 * B * (n0 + m + 1) ≤ 900000000)
    (h4 : (n0 + m) * (n0 + m * (n0 + m) + 1) + (n0 + m) ≤ Z) (h5 : (n0 + 1) + m + m * (n0 + 1 + m) + (m + 1) * (m * B + 2 * B * (n0 + m + 1)) * (n0 + 1) + 1 + m ≤ Z) (h6 : Z ≤ 8000000) : ClOk f Z ∧ ClOk (negF f) Z :=
  ⟨⟨m, n0, B, G, m0, ga, h1, h2, fun n hn => by have := nb n hn; omega, h3, h4, h5, h6⟩, ⟨m, n0, B, -G, m0, ga.neg, h1, h2, fun n hn => by have := nb n hn; simp only [negF]; omega, h3, h4, h5, h6⟩⟩
theorem cases3 {m : Nat} (h0 : 0 < m) (h : m ≤ 3) : m = 1 ∨ m = 2 ∨ m = 3 := by omega
theorem cases12 {m : Nat} (h0 : 0 < m) (h : m ≤ 12) : m = 1 ∨ m = 2 ∨ m = 3 ∨ m = 4 ∨ m = 5 ∨ m = 6 ∨ m = 7 ∨ m = 8 ∨ m = 9 ∨ m = 10 ∨ m = 11 ∨ m = 12 := by omega
theorem _root_.RW.Cn.clOk (c : Cn f M N g) : ClOk f 100000 ∧ ClOk (negF f) 100000 := by
  have nb : ∀ n, n ≤ 3 + 3 + 1 → 0 ≤ f n ∧ f n ≤ (100 : Nat) := fun n hn => ⟨c.nn n, by have := c.bd n; omega⟩
  have ga := c.ga.mono c.n3
  have m0 := c.m0
  rcases cases3 c.m0 c.m3 with rfl | rfl | rfl <;> exact clOk_of (B := 100) (n0 := 3) m0 ga (fun n hn => nb n (by omega)) (by omega) (by omega) (by omega) (by omega) (by omega) (by omega)
theorem _root_.RW.Wn.clOk (c : Wn f g M) : ClOk f 2000000 ∧ ClOk (negF f) 2000000 := by
  have nb : ∀ n, n ≤ 26 → 0 ≤ f n ∧ f n ≤ (100 : Nat) := fun n hn => ⟨c.lo n, by have := c.bd n; omega⟩
  have ga := c.ga
  have m0 := c.g0
  rcases cases12 c.g0 c.g12 with rfl | rfl | rfl | rfl | rfl | rfl | rfl | rfl | rfl | rfl | rfl | rfl <;> exact clOk_of (B := 100) (n0 := 13) m0 ga (fun n hn => nb n (by omega)) (by omega) (by omega) (by omega) (by omega) (by omega) (by omega)
/-! the greatest and the least of two -/
theorem low_two {x : Nat → Int} (h : Lowest [f, f'] x) (n : Nat) : (x n = f n ∨ x n = f' n) ∧ x n ≤ f n ∧ x n ≤ f' n := by
  obtain ⟨⟨y, hy, e⟩, l⟩ := h n
  simp only [List.mem_cons, List.not_mem_nil, or_false] at hy
  refine ⟨?_, l f (by simp), l f' (by simp)⟩
  rcases hy with rfl | rfl
  · exact .inl e
  · exact .inr e
theorem high_two {x : Nat → Int} (h : Lowest [negF f, negF f'] x) (n : Nat) : (negF x n = f n ∨ negF x n = f' n) ∧ f n ≤ negF x n ∧ f' n ≤ negF x n := by
  have := low_two h n
  simp only [negF] at this ⊢
  omega
theorem _root_.RW.Cn.minOk (c : Cn f M N g) (c' : Cn f' M' N' g') {x : Nat → Int} (h : Lowest [f, f'] x) : Mono x ∧ WhenOk x := by
  have mx : Mono x := fun n => by
    have a := low_two h n
    have b := low_two h (n + 1)
    have := c.mono n
    have := c'.mono n
    rcases b.1 with e | e <;> omega
  refine ⟨mx, when_ok (Z := 4000) mx (fun k => ?_) ?_ (fun n hn => by have := (low_two h n).2.1; have := c.bd n; omega) (by omega)⟩
  · obtain ⟨a, ha⟩ := c.grow k
    obtain ⟨b, hb⟩ := c'.grow k
    refine ⟨a + b, ?_⟩
    have := c.mono.le (i := a) (j := a + b) (by omega)
    have := c'.mono.le (i := b) (j := a + b) (by omega)
    rcases (low_two h (a + b)).1 with e | e <;> omega
  · obtain ⟨m, A, B, m9, F, _⟩ := c.fam c'
    obtain ⟨G, hG⟩ := F.gains h
    exact ⟨m, _, G, F.m0, hG, by omega⟩
theorem _root_.RW.Cn.maxOk (c : Cn f M N g) (c' : Cn f' M' N' g') {x : Nat → Int} (h : Lowest [negF f, negF f'] x) : Rising (negF x) ∧ WhenOk (negF x) := by
  have mx : Mono (negF x) := fun n => by
    have a := high_two h n
    have b := high_two h (n + 1)
    have := c.mono n
    have := c'.mono n
    rcases a.1 with e | e <;> omega
  refine ⟨⟨by have := high_two h 0; have := c.f0; omega, mx⟩, when_ok (Z := 4000) mx (fun k => ?_) ?_ (fun n hn => by have := c.bd n; have := c'.bd n; rcases (high_two h n).1 with e | e <;> omega) (by omega)⟩
  · obtain ⟨a, ha⟩ := c.grow k
    exact ⟨a, by have := (high_two h a).2.1; omega⟩
  · obtain ⟨m, A, B, m9, _, F⟩ := c.fam c'
    obtain ⟨G, hG⟩ := F.gains h
    exact ⟨m, _, -G, F.m0, hG.neg, by omega⟩
/-! splits -/
theorem _root_.RW.Cn.supOk (c : Cn f M N g) (c' : Cn f' M' N' g') {x : Nat → Int} (h : ∀ n, IsConv (negF f) (negF f') n (x n)) : Rising (negF x) ∧ WhenOk (negF x) := by
  have sc : ∀ n, IsConv (fun n => - f n) (fun n => - f' n) n (- negF x n) := fun n => by
    have := h n
    rw [show - negF x n = x n by simp only [negF]; omega]
    exact this
  have mx : Mono (negF x) := RW.sup_mono c.mono c'.mono sc
  have lo : ∀ n i, i ≤ n → f i + f' (n - i) ≤ negF x n := fun n i hi => by
    have := (sc n).2 i hi
    simp only at this
    omega
  refine ⟨⟨by have := lo 0 0 (Nat.le_refl _); have := c.f0; have := c'.f0; simp only [Nat.sub_zero] at *; omega, mx⟩, when_ok (Z := 4100) mx (fun k => ?_) ?_ (fun n hn => ?_) (by omega)⟩
  · obtain ⟨a, ha⟩ := c.grow k
    refine ⟨a, ?_⟩
    have := lo a a (Nat.le_refl _)
    have := c'.nn (a - a)
    omega
  · obtain ⟨G, hG⟩ := RW.sup_gains c c' sc
    obtain ⟨m0, m9, _⟩ := c.both c'
    exact ⟨_, _, G, m0, hG, by omega⟩
  · obtain ⟨⟨i, hi, e⟩, _⟩ := sc n
    have := c.bd i
    have := c'.bd (n - i)
    simp only at e
    omega
theorem _root_.RW.Cn.infOk (c : Cn f M N g) (c' : Cn f' M' N' g') {x : Nat → Int} (h : ∀ n, IsConv f f' n (x n)) : Mono x ∧ WhenOk x ∧ x 0 = f 0 + f' 0 := by
  have mx : Mono x := RW.inf_mono c.mono c'.mono h
  refine ⟨mx, when_ok (Z := 4100) mx (RW.inf_grow c.nn c'.nn c.mono c'.mono c.grow c'.grow h) ?_ (fun n hn => ?_) (by omega), ?_⟩
  · obtain ⟨G, hG⟩ := RW.inf_gains c c' h
    obtain ⟨m0, m9, _⟩ := c.both c'
    exact ⟨_, _, G, m0, hG, by omega⟩
  · have := (h n).2 0 (Nat.zero_le _)
    have := c.bd 0
    have := c'.bd (n - 0)
    simp only [Nat.sub_zero] at *
    omega
  · obtain ⟨⟨i, hi, e⟩, _⟩ := h 0
    rw [e, show i = 0 by omega]
/-! the closure -/
theorem _root_.RW.Cn.heldOk (c : Cn f M N g) {x : Nat → Int} (h : IsCl (negF f) x) (go : Goes (negF x) 100000) : Rising (negF x) ∧ WhenOk (negF x) ∧ IsCl (fun n => - f n) (fun n => - negF x n) := by
  have hc : IsCl (fun n => - f n) (fun n => - negF x n) := by
    rw [show (fun n => - negF x n) = x from funext fun n => by simp only [negF]; omega]
    exact h
  have mx : Mono (negF x) := RW.held_mono c.nn c.mono hc
  refine ⟨⟨by have := hc.1; simp only at this; omega, mx⟩, when_ok mx (RW.held_grow c.mono c.grow hc) go (fun n hn => ?_) (by omega), hc⟩
  have := RW.held_bd c.bd hc n
  omega
theorem _root_.RW.Cn.closedOk (c : Cn f M N g) (f1 : 1 ≤ f 1) {x : Nat → Int} (h : IsCl f x) (go : Goes x 100000) : Rising x ∧ WhenOk x ∧ 1 ≤ x 1 := by
  have mx : Mono x := RW.cl_mono c.nn c.mono h
  have six := RW.cl_six (c.six f1) h
  refine ⟨⟨by rw [h.1]; exact Int.le_refl _, mx⟩, when_ok mx (fun k => ?_) go (fun n hn => ?_) (by omega), by have := six 1; omega⟩
  · exact ⟨(6 * k).toNat, by have := six (6 * k).toNat; omega⟩
  · by_cases z : n = 0
    · rw [z, h.1]; omega
    · have := h.le (n := n) (by omega)
      have := c.bd n
      omega
end
end K17
set_option Elab.async false
set_option linter.all false
set_option maxRecDepth 100000
set_option pp.maxSteps 900
set_option maxHeartbeats 4000000
namespace K17
open PySem PySem.Spec PyProof.Rows L2 LamX NdefX
section
variable {P : Program} {w : World} {K : PySem.W.Frag} {mg : Str → Option Value} {base : Heap}
theorem row_din {H : Hp} {a b : Addr} {f g : Nat → Int} (r : IsRow K H a f) (r' : IsRow K H b g) (e : ∀ n, g n = f n) : DIns (rowC K) (SameRow K) (.ref a) (.ref b) H := by
  have r2 := r'.congr e
  obtain ⟨t1, c1, e1, z1, dx1, ea1, er1, w1, w2, w3⟩ := id r
  obtain ⟨t2', c2, e2, z2, dx2, ea2, er2, u1, u2, u3⟩ := id r2
  exact ⟨a, b, dx1, dx2, _, _, rfl, rfl, w1, u1, f, r, r2⟩
theorem two_rows {H : Hp} {l a b : Addr} {f g : Nat → Int} (h : H l = some (.lst [.ref a, .ref b])) (r : IsRow K H a f) (r' : IsRow K H b g) : Rows K H l [(a, f), (b, g)] := by
  refine ⟨h, fun x hx => ?_⟩
  simp only [List.mem_cons, List.not_mem_nil, or_false] at hx
  rcases hx with rfl | rfl
  · exact r
  · exact r'
theorem neg_conv {f g x : Nat → Int} (h : ∀ n, RW.IsConv (negF f) (negF g) n (x n)) (n : Nat) : RW.IsConv (fun n => - f n) (fun n => - g n) n (- negF x n) := by
  rw [show - negF x n = x n by simp only [negF]; omega]
  exact h n
theorem sc_law_pairs_turned_right : FnScope ["_law_draws", "_law_rows", "_law_one", "_law_other", "_law_row"] ["_law_draws", "_law_rows"] (defScope (topS 90)) := ⟨rfl, rfl, rfl, by decide +kernel, rfl, by decide +kernel, by decide +kernel⟩
def spPairs (K : PySem.W.Frag) : Sp := fun vs H Q _ => ∃ (d l : Addr) (v v' : V) (hs cs : List Int) (g : Int) (hs' cs' : List Int) (g' first first' : Int) (n : Nat), vs = [.ref d, .ref l] ∧ Tabs (tbs K) H ∧ Dr H d n ∧ n ≤ 80000 ∧ H l = some (.lst [v, v']) ∧ l ≠ d ∧
  OwnD d H v hs cs g ∧ OwnD d H v' hs' cs' g' ∧ Risen hs cs g first ∧ Risen hs' cs' g' first' ∧ 0 < g ∧ 0 < g' ∧ 0 ≤ first ∧ 0 ≤ first' ∧ ∀ H', Gd K d H H' → Dr H' d (n + 20) → Q (.bl true) H'
set_option maxHeartbeats 16000000 in
theorem ok_law_pairs_turned_right (X2 : TxtB P K mg) (TB : TabB base mg (He.cT K ("least_of_two", none)).1 (He.cT K ("least_of_two", none)).2) : Ok P w K mg base CX0 11 "_law_pairs_turned_right" ["_law_draws", "_law_rows"] (spPairs K) := by
  have X := X2.t
  refine ok_def0 X 72 rfl sc_law_pairs_turned_right (by decide +kernel) (fun vs H Q E h => ?_) (fun _ _ _ _ _ _ us hl => match us, hl with | [_, _], _ => rfl) (fun f cdv A outer s H vs Q E hr h => ?_)
  · obtain ⟨d, l, v, v', hs, cs, g, hs', cs', g', a, a', n, rfl, _⟩ := h; rfl
  · obtain ⟨d, l, v, v', hs, cs, g, hs', cs', g', a, a', n, rfl, tb, dr, hn, hl, ne, ow, ow', ri, ri', g0, g0', a0, a0', fin⟩ := h
    have c := ri.cn g0 a0
    have c' := ri'.cn g0' a0'
    refine ⟨_, (pss_cons (ps_asg (pe_lc (own := [("_law_row", 4)]) (g := (gName 4)) (tt := tYes) rfl sc_law_pairs_turned_right.nd (piL_K (K := K) (pv 1)) (blkOk_by (N := ["_law_draws", "_law_rows", "_law_one", "_law_other", "_law_row"]) (sc := defScope (topS 90)) (by decide +kernel)) (fun _ _ _ _ _ => (pg_name (i := 4) sc_law_pairs_turned_right.nd rfl (.inl rfl))) (fun _ _ _ _ _ => pts_nil) (fun _ _ _ _ _ => (pe_o (ok_law_passed X) hr pass0 (pa_cons (pv 0) (pa_cons (pv 4) pa_nil))))) (unl_K (K := K) (pgs_cons (pg_name (i := 2) sc_law_pairs_turned_right.nd rfl (.inl rfl)) (pgs_cons (pg_name (i := 3) sc_law_pairs_turned_right.nd rfl (.inl rfl)) pgs_nil))))
  (pss_cons (ps_if (pt_cmpR (neRow_K X2 hr) (pe_o (ok_when X) hr pass0 (pa_cons (pe_o (ok_split_greatest X TB) hr pass0 (pa_cons (pv 2) (pa_cons (pv 3) pa_nil))) pa_nil)) (pe_o (ok_split_least X TB) hr pass0 (pa_cons (pe_o (ok_when X) hr pass0 (pa_cons (pv 2) pa_nil)) (pa_cons (pe_o (ok_when X) hr pass0 (pa_cons (pv 3) pa_nil)) pa_nil))) (nomark _))
  (pss_one (ps_ret pe_bl))
  pss_nil)
  (pss_cons (ps_if (pt_cmpR (neRow_K X2 hr) (pe_o (ok_when X) hr pass0 (pa_cons (pe_o (ok_greatest_of X TB) hr pass0 (pa_cons (pe_lst (pa_cons (pv 2) (pa_cons (pv 3) pa_nil))) pa_nil)) pa_nil)) (pe_o (ok_least_of X TB) hr pass0 (pa_cons (pe_lst (pa_cons (pe_o (ok_when X) hr pass0 (pa_cons (pv 2) pa_nil)) (pa_cons (pe_o (ok_when X) hr pass0 (pa_cons (pv 3) pa_nil)) pa_nil))) pa_nil)) (nomark _))
  (pss_one (ps_ret pe_bl))
  pss_nil)
  (pss_cons (ps_if (PW.pt (pw_or (pt_cmpR op_gt (m1_K X (by decide +kernel) (ok_at X) hr pass0 (pv 2) (pa_cons pe_int pa_nil)) pe_int (nomark _)) (pw_or1 (pt_cmpR op_gt (m1_K X (by decide +kernel) (ok_at X) hr pass0 (pv 3) (pa_cons pe_int pa_nil)) pe_int (nomark _)))))
  (pss_one (ps_ret pe_bl))
  pss_nil)
  (pss_cons (ps_if (pt_cmpR (neRow_K X2 hr) (pe_o (ok_last X) hr pass0 (pa_cons (pe_o (ok_split_least X TB) hr pass0 (pa_cons (pv 2) (pa_cons (pv 3) pa_nil))) pa_nil)) (pe_o (ok_split_greatest X TB) hr pass0 (pa_cons (pe_o (ok_last X) hr pass0 (pa_cons (pv 2) pa_nil)) (pa_cons (pe_o (ok_last X) hr pass0 (pa_cons (pv 3) pa_nil)) pa_nil))) (nomark _))
  (pss_one (ps_ret pe_bl))
  pss_nil)
  (pss_cons (ps_if (pt_cmpR (neRow_K X2 hr) (pe_o (ok_last X) hr pass0 (pa_cons (pe_o (ok_least_of X TB) hr pass0 (pa_cons (pe_lst (pa_cons (pv 2) (pa_cons (pv 3) pa_nil))) pa_nil)) pa_nil)) (pe_o (ok_greatest_of X TB) hr pass0 (pa_cons (pe_lst (pa_cons (pe_o (ok_last X) hr pass0 (pa_cons (pv 2) pa_nil)) (pa_cons (pe_o (ok_last X) hr pass0 (pa_cons (pv 3) pa_nil)) pa_nil))) pa_nil)) (nomark _))
  (pss_one (ps_ret pe_bl))
  pss_nil)
  (pss_cons (ps_if (pt_cmpR (neRow_K X2 hr) (pe_o (ok_when X) hr pass0 (pa_cons (pe_o (ok_held X) hr pass0 (pa_cons (pv 2) pa_nil)) pa_nil)) (pe_o (ok_closed X) hr pass0 (pa_cons (pe_o (ok_when X) hr pass0 (pa_cons (pv 2) pa_nil)) pa_nil)) (nomark _))
  (pss_one (ps_ret pe_bl))
  pss_nil)
  (pss_one (ps_ret (pe_or (pe_cmpR op_eq (m1_K X (by decide +kernel) (ok_at X) hr pass0 (pv 2) (pa_cons pe_int pa_nil)) pe_int (nomark _)) (pe_one (pe_cmpR (eqRow_K X hr) (pe_o (ok_last X) hr pass0 (pa_cons (pe_o (ok_closed X) hr pass0 (pa_cons (pv 2) pa_nil)) pa_nil)) (pe_o (ok_held X) hr pass0 (pa_cons (pe_o (ok_last X) hr pass0 (pa_cons (pv 2) pa_nil)) pa_nil)) (nomark _))))))))))))), ?_⟩
    refine ⟨_, rfl, l, rfl, ⟨_, .of hl⟩, fun D hD => ?_⟩
    have nD := dr.fresh hD
    have at_ : ∀ i, i < 2 → [v, v'][i]? = some ([v, v'].getD i .non) := fun i hi => by rw [List.getD, List.getElem?_eq_getElem (by simpa using hi)]; rfl
    refine lc_own (K := K) (n := 2) (c := 10) (fun i H x => ∃ p, x = .ref p ∧ IsRow K H p (if i = 0 then tri hs cs g else tri hs' cs' g')) (fun i => [v, v'].getD i .non) (fun i H H' x n gd dr ⟨p, e, r⟩ => ⟨p, e, gd.row dr r⟩) (fun i H x acc acc' h ⟨p, e, r⟩ => ⟨p, e, row_upd r h (by intro _ _ _ z; cases z) (by intro _ z; cases z)⟩) hD (by omega) dr (fun i H hi g _ => ⟨_, _, .of (g.lst ne hl), at_ i hi⟩) (fun H g _ => ⟨_, .of (g.lst ne hl), Nat.le_refl _⟩) (fun i H x H' hi g _ h => ⟨h.1, Option.some.inj ((h.2 _ (.of (g.lst ne hl))).symm.trans (at_ i hi))⟩) (fun i H2 Q2 hi g2 d2 hacc q2 => ?_) (fun H2 ws g2 d2 hw hlen hR => ?_)
    · rcases (show i = 0 ∨ i = 1 by omega) with rfl | rfl
      · exact ⟨rfl, _, rfl, _, rfl, d, v, hs, cs, g, _, rfl, d2, by omega, ow.gd g2 dr, by have := ri.h3; omega, by have := ri.c3; omega, fun H4 p g4 d4 r4 => q2 _ _ g4 d4 ⟨p, rfl, r4⟩⟩
      · exact ⟨rfl, _, rfl, _, rfl, d, v', hs', cs', g', _, rfl, d2, by omega, ow'.gd g2 dr, by have := ri'.h3; omega, by have := ri'.c3; omega, fun H4 p g4 d4 r4 => q2 _ _ g4 d4 ⟨p, rfl, r4⟩⟩
    · obtain ⟨x, x', rfl⟩ : ∃ x x', ws = [x, x'] := by
        match ws, hlen with
        | [a, b], _ => exact ⟨a, b, rfl⟩
      obtain ⟨p, rfl, r1⟩ := hR 0 x rfl
      obtain ⟨q, rfl, r2⟩ := hR 1 x' rfl
      replace r1 : IsRow K H2 p (tri hs cs g) := r1
      replace r2 : IsRow K H2 q (tri hs' cs' g') := r2
      have t2 := g2.tab tb
      have fin2 : ∀ H', Gr K H2 H' → Q (.bl true) H' := fun H' g => fin H' (g2.gr g) (d2.gr g)
      have fl : (tri hs cs g) 0 = a := ri.at0
      have fl' : (tri hs' cs' g') 0 = a' := ri'.at0
      clear hR g2 d2 fin ow ow' ri ri'
      generalize tri hs cs g = F at *
      generalize tri hs' cs' g' = F' at *
      refine ⟨D, _, rfl, .of hw, rfl, _, _, rfl, _, _, rfl, rfl, ?_⟩
      -- when(split_greatest(one, other)) != split_least(when(one), when(other))
      refine ⟨_, rfl, _, rfl, p, q, _, _, rfl, t2, r1, r2, c.splitOk c', fun rA HA s gA rowA scA => ?_⟩
      obtain ⟨riA, wkA⟩ := c.supOk c' scA
      refine ⟨rA, _, rfl, rowA, riA, wkA, fun rB HB ws gB iwB rowB => ?_⟩
      have g3 := gA.trans gB
      refine ⟨_, rfl, p, _, rfl, g3.row r1, c.rising, c.whenOk, fun rC HC wf gC iwC rowC' => ?_⟩
      refine ⟨_, rfl, q, _, rfl, (g3.trans gC).row r2, c'.rising, c'.whenOk, fun rD HD wg gD iwD rowD => ?_⟩
      have g4 := (g3.trans gC).trans gD
      refine ⟨rC, rD, _, _, rfl, g4.tab t2, gD.row rowC', rowD, (c.w iwC).splitOk (c'.w iwD), fun rE HE m gE rowE scE => ?_⟩
      refine ⟨row_din (((gC.trans gD).trans gE).row rowB) rowE (fun n => RW.IsConv.uniq (scE n) (RW.w_conv iwC iwD iwB c.mono c'.mono c.f0 c'.f0 (neg_conv scA) n)), fun HF ex => ?_⟩
      refine ⟨_, rfl, ifF ?_⟩
      have gZ1 : Gr K H2 HF := (g4.trans gE).trans (Ge.of ex)
      have r1 := gZ1.row r1
      have r2 := gZ1.row r2
      have t2 := gZ1.tab t2
      replace fin2 : ∀ H', Gr K HF H' → Q (.bl true) H' := fun H' g => fin2 H' (gZ1.trans g)
      clear gZ1 ex gE gD gC gB gA g3 g4 rowA rowB rowC' rowD rowE
      -- when(greatest_of([one, other])) != least_of([when(one), when(other)])
      obtain ⟨m, A', B', m9, fam1, fam2⟩ := c.fam c'
      refine ⟨_, rfl, _, rfl, by show 2 ≤ sizeLine; decide, fun l1 n1 => ?_⟩
      have g1 : Gr K HF (upd HF l1 (.lst [.ref p, .ref q])) := Ge.new n1
      have h1 : upd HF l1 (.lst [.ref p, .ref q]) l1 = some (.lst [.ref p, .ref q]) := upd_same
      generalize upd HF l1 (.lst [.ref p, .ref q]) = H3 at g1 h1 ⊢
      refine ⟨l1, [(p, F), (q, F')], m, 3, 300, _, _, rfl, g1.tab t2, two_rows h1 (g1.row r1) (g1.row r2), by simp, by simp, fam2, fun rA HA x gA rowA loA => ?_⟩
      obtain ⟨riA, wkA⟩ := c.maxOk c' loA
      refine ⟨rA, _, rfl, rowA, riA, wkA, fun rB HB ws gB iwB rowB => ?_⟩
      have g3 := (g1.trans gA).trans gB
      refine ⟨_, rfl, p, _, rfl, g3.row r1, c.rising, c.whenOk, fun rC HC wf gC iwC rowC' => ?_⟩
      refine ⟨_, rfl, q, _, rfl, (g3.trans gC).row r2, c'.rising, c'.whenOk, fun rD HD wg gD iwD rowD => ?_⟩
      refine ⟨by show 2 ≤ sizeLine; decide, fun l2 n2 => ?_⟩
      have g5 : Gr K HD (upd HD l2 (.lst [.ref rC, .ref rD])) := Ge.new n2
      have h5 : upd HD l2 (.lst [.ref rC, .ref rD]) l2 = some (.lst [.ref rC, .ref rD]) := upd_same
      generalize upd HD l2 (.lst [.ref rC, .ref rD]) = H5 at g5 h5 ⊢
      have g4 := ((g3.trans gC).trans gD).trans g5
      obtain ⟨mw, A2, B2, famW, famW'⟩ := (c.w iwC).fam (c'.w iwD)
      refine ⟨l2, [(rC, _), (rD, _)], mw, 13, 1000, _, _, rfl, g4.tab t2, two_rows h5 ((gD.trans g5).row rowC') (g5.row rowD), by simp, famW, fun rE HE y gE rowE loE => ?_⟩
      refine ⟨row_din (((gC.trans gD).trans (g5.trans gE)).row rowB) rowE (fun n => by
        have a := low_two loE n
        have b := RW.w_max iwC iwD iwB (high_two loA) n
        simp only at a ⊢
        omega), fun HG ex => ?_⟩
      refine ⟨_, rfl, ifF ?_⟩
      have gZ1 : Gr K HF HG := (g4.trans gE).trans (Ge.of ex)
      have r1 := gZ1.row r1
      have r2 := gZ1.row r2
      have t2 := gZ1.tab t2
      replace fin2 : ∀ H', Gr K HG H' → Q (.bl true) H' := fun H' g => fin2 H' (gZ1.trans g)
      clear gZ1 ex gE gD gC gB gA g3 g4 g5 g1 rowA rowB rowC' rowD rowE
      -- at(0) > 0
      have i1 : ∃ dx fs, HG p = some (.ins (rowC K) dx fs) ∧ fs.lookup ("at" : Str) = none := by
        obtain ⟨t1, _, _, _, dx1, _, _, w1, _⟩ := id r1
        exact ⟨_, _, w1, rfl⟩
      have i2 : ∃ dx fs, HG q = some (.ins (rowC K) dx fs) ∧ fs.lookup ("at" : Str) = none := by
        obtain ⟨t1, _, _, _, dx1, _, _, w1, _⟩ := id r2
        exact ⟨_, _, w1, rfl⟩
      obtain ⟨dx1, fs1, w1, lk1⟩ := i1
      obtain ⟨dx2, fs2, w2, lk2⟩ := i2
      refine ⟨_, rfl, p, _, _, rfl, w1, lk1, p, F, 0, rfl, r1, by omega, ?_⟩
      refine ⟨_, _, rfl, rfl, _, rfl, iteD (fun e => ifT ?_) (fun e1 => ?_)⟩
      · exact fin2 _ (Ge.refl _)
      refine ⟨_, rfl, q, _, _, rfl, w2, lk2, q, F', 0, rfl, r2, by omega, ?_⟩
      refine ⟨_, _, rfl, rfl, _, rfl, iteD (fun e => ?_) (fun e2 => ?_)⟩
      · exact fin2 _ (Ge.refl _)
      have z1 : F 0 = 0 := by have := c.f0; omega
      have z2 : F' 0 = 0 := by have := c'.f0; omega
      -- last(split_least(one, other)) != split_greatest(last(one), last(other))
      refine ⟨_, rfl, _, rfl, p, q, _, _, rfl, t2, r1, r2, c.splitOk c', fun rA HA s gA rowA scA => ?_⟩
      obtain ⟨mA, wkA, sA⟩ := c.infOk c' scA
      have s0 : s 0 = 0 := by omega
      refine ⟨rA, _, rfl, rowA, ⟨by omega, mA⟩, s0, wkA, fun rB HB ws gB iwB rowB => ?_⟩
      have g3 := gA.trans gB
      refine ⟨_, rfl, p, _, rfl, g3.row r1, c.rising, z1, c.whenOk, fun rC HC wf gC iwC rowC' => ?_⟩
      refine ⟨_, rfl, q, _, rfl, (g3.trans gC).row r2, c'.rising, z2, c'.whenOk, fun rD HD wg gD iwD rowD => ?_⟩
      have g4 := (g3.trans gC).trans gD
      refine ⟨rC, rD, _, _, rfl, g4.tab t2, gD.row rowC', rowD, (c.l iwC z1).splitOk (c'.l iwD z2), fun rE HE m gE rowE scE => ?_⟩
      refine ⟨row_din (((gC.trans gD).trans gE).row rowB) rowE (fun n => by
        have := RW.IsConv.uniq (scE n) (RW.l_conv iwC iwD iwB c.mono c'.mono mA z1 z2 s0 scA n)
        simp only [negF]; omega), fun HI ex => ?_⟩
      refine ⟨_, rfl, ifF ?_⟩
      have gZ1 : Gr K HG HI := (g4.trans gE).trans (Ge.of ex)
      have r1 := gZ1.row r1
      have r2 := gZ1.row r2
      have t2 := gZ1.tab t2
      replace fin2 : ∀ H', Gr K HI H' → Q (.bl true) H' := fun H' g => fin2 H' (gZ1.trans g)
      have w1 := gZ1.at w1
      clear gZ1 ex gE gD gC gB gA g3 g4 rowA rowB rowC' rowD rowE
      -- last(least_of([one, other])) != greatest_of([last(one), last(other)])
      refine ⟨_, rfl, _, rfl, by show 2 ≤ sizeLine; decide, fun l1 n1 => ?_⟩
      have g1 : Gr K HI (upd HI l1 (.lst [.ref p, .ref q])) := Ge.new n1
      have h1 : upd HI l1 (.lst [.ref p, .ref q]) l1 = some (.lst [.ref p, .ref q]) := upd_same
      generalize upd HI l1 (.lst [.ref p, .ref q]) = H3 at g1 h1 ⊢
      refine ⟨l1, [(p, F), (q, F')], _, 3, 300, _, _, rfl, g1.tab t2, two_rows h1 (g1.row r1) (g1.row r2), by simp, fam1, fun rA HA x gA rowA loA => ?_⟩
      replace loA : Lowest [F, F'] x := loA
      obtain ⟨mA, wkA⟩ := c.minOk c' loA
      have x0 : x 0 = 0 := by have := low_two loA 0; omega
      refine ⟨rA, _, rfl, rowA, ⟨by omega, mA⟩, x0, wkA, fun rB HB ws gB iwB rowB => ?_⟩
      have g3 := (g1.trans gA).trans gB
      refine ⟨_, rfl, p, _, rfl, g3.row r1, c.rising, z1, c.whenOk, fun rC HC wf gC iwC rowC' => ?_⟩
      refine ⟨_, rfl, q, _, rfl, (g3.trans gC).row r2, c'.rising, z2, c'.whenOk, fun rD HD wg gD iwD rowD => ?_⟩
      refine ⟨by show 2 ≤ sizeLine; decide, fun l2 n2 => ?_⟩
      have g5 : Gr K HD (upd HD l2 (.lst [.ref rC, .ref rD])) := Ge.new n2
      have h5 : upd HD l2 (.lst [.ref rC, .ref rD]) l2 = some (.lst [.ref rC, .ref rD]) := upd_same
      generalize upd HD l2 (.lst [.ref rC, .ref rD]) = H5 at g5 h5 ⊢
      have g4 := ((g3.trans gC).trans gD).trans g5
      obtain ⟨mw, A2, B2, famW, famW'⟩ := (c.l iwC z1).fam (c'.l iwD z2)
      refine ⟨l2, [(rC, _), (rD, _)], mw, 13, 1000, _, _, rfl, g4.tab t2, two_rows h5 ((gD.trans g5).row rowC') (g5.row rowD), by simp, by simp, famW', fun rE HE y gE rowE loE => ?_⟩
      refine ⟨row_din (((gC.trans gD).trans (g5.trans gE)).row rowB) rowE (fun n => by
        have a := high_two loE n
        have b := RW.l_min iwC iwD iwB c.mono c'.mono mA z1 z2 x0 (low_two loA) (n + 1)
        simp only at a ⊢
        omega), fun HJ ex => ?_⟩
      refine ⟨_, rfl, ifF ?_⟩
      have gZ1 : Gr K HI HJ := (g4.trans gE).trans (Ge.of ex)
      have r1 := gZ1.row r1
      have r2 := gZ1.row r2
      have t2 := gZ1.tab t2
      replace fin2 : ∀ H', Gr K HJ H' → Q (.bl true) H' := fun H' g => fin2 H' (gZ1.trans g)
      have w1 := gZ1.at w1
      clear gZ1 ex gE gD gC gB gA g3 g4 g5 g1 rowA rowB rowC' rowD rowE
      -- when(held(one)) != closed(when(one))
      refine ⟨_, rfl, p, _, 100000, rfl, r1, c.clOk.2, fun rA HA h gA rowA clA goA => ?_⟩
      obtain ⟨riA, wkA, hcA⟩ := c.heldOk clA goA
      refine ⟨rA, _, rfl, rowA, riA, wkA, fun rB HB ws gB iwB rowB => ?_⟩
      have g3 := gA.trans gB
      refine ⟨_, rfl, p, _, rfl, g3.row r1, c.rising, c.whenOk, fun rC HC wf gC iwC rowC' => ?_⟩
      refine ⟨rC, _, 2000000, rfl, rowC', (c.w iwC).clOk.1, fun rE HE y gE rowE clE goE => ?_⟩
      refine ⟨row_din ((gC.trans gE).row rowB) rowE (fun n => RW.IsCl.uniq clE (RW.w_held iwC iwB c.mono riA.2 z1 hcA) n), fun HK ex => ?_⟩
      refine ⟨_, rfl, ifF ?_⟩
      have gZ1 : Gr K HJ HK := ((g3.trans gC).trans gE).trans (Ge.of ex)
      have r1 := gZ1.row r1
      replace fin2 : ∀ H', Gr K HK H' → Q (.bl true) H' := fun H' g => fin2 H' (gZ1.trans g)
      have w1 := gZ1.at w1
      clear gZ1 ex gE gC gB gA g3 rowA rowB rowC' rowE
      -- one.at(1) == 0 or last(closed(one)) == held(last(one))
      refine ⟨_, rfl, p, _, _, rfl, w1, lk1, p, F, 1, rfl, r1, by omega, ?_⟩
      refine ⟨rfl, _, rfl, iteD (fun e => fin2 _ (Ge.refl _)) (fun e => ?_)⟩
      have f1 : 1 ≤ F 1 := by
        have k := c.nn 1
        have e2 : F 1 ≠ 0 := fun z => e (by rw [z])
        omega
      refine ⟨_, rfl, p, _, 100000, rfl, r1, c.clOk.1, fun rA HA x gA rowA clA goA => ?_⟩
      obtain ⟨riA, wkA, x1⟩ := c.closedOk f1 clA goA
      refine ⟨rA, _, rfl, rowA, riA, clA.1, wkA, fun rB HB ws gB iwB rowB => ?_⟩
      have g3 := gA.trans gB
      refine ⟨_, rfl, p, _, rfl, g3.row r1, c.rising, z1, c.whenOk, fun rC HC wf gC iwC rowC' => ?_⟩
      refine ⟨rC, _, 2000000, rfl, rowC', (c.l iwC z1).clOk.2, fun rE HE y gE rowE clE goE => ?_⟩
      refine ⟨row_din ((gC.trans gE).row rowB) rowE (fun n => by
        have := RW.IsCl.uniq clE (RW.l_closed iwC iwB c.mono riA.2 z1 f1 clA x1) n
        simp only [negF]; omega), fun HL ex => ?_⟩
      exact fin2 _ (((g3.trans gC).trans gE).trans (Ge.of ex))
end
end K17
set_option Elab.async false
set_option linter.all false
set_option maxRecDepth 100000
set_option maxHeartbeats 4000000
/-! gaps of small rows: what the walked functions ask; != [] -/
namespace K17
open PySem PySem.Spec PyProof.Rows L2 LamX
open RW (Gains IsW)
section
variable {hs cs hs' cs' : List Int} {g g' : Int}
theorem Small.gains (s : Small hs cs g) : Gains (tri hs cs g) cs.length g hs.length := RW.ev_gains (t := ⟨hs, cs, g⟩) s.c0
theorem Small.bd (s : Small hs cs g) (n : Nat) : - (12 + 12 * (n : Int)) ≤ tri hs cs g n ∧ tri hs cs g n ≤ 12 + 12 * n := by
  induction n using Nat.strongRecOn with
  | ind n ih =>
    by_cases z : n < hs.length + cs.length
    · have := s.val z
      omega
    · have a := ih (n - cs.length) (by have := s.c0; omega)
      have b := s.gains (n - cs.length) (by omega)
      rw [show n - cs.length + cs.length = n by omega] at b
      have := s.g12
      have := s.c0
      omega
theorem Small.both (s : Small hs cs g) (s' : Small hs' cs' g') : 0 < cs.length * cs'.length ∧ cs.length * cs'.length ≤ 100 ∧ Gains (tri hs cs g) (cs.length * cs'.length) ((cs'.length : Nat) * g) 10 ∧ Gains (tri hs' cs' g') (cs.length * cs'.length) ((cs.length : Nat) * g') 10 :=
  ⟨Nat.mul_pos s.c0 s'.c0, Nat.mul_le_mul s.c10 s'.c10, (s.gains.mul' cs'.length).mono s.h10, (s'.gains.mul cs.length).mono s'.h10⟩
theorem Small.pairOk (s : Small hs cs g) (s' : Small hs' cs' g') : PairOk (tri hs cs g) (tri hs' cs' g') := by
  obtain ⟨m0, m1, ga, gb⟩ := s.both s'
  exact ⟨_, 10, _, _, m0, ga, gb, by omega⟩
theorem fast_cases {f f' : Nat → Int} (h : PairOk f f') : Faster f f' ∨ NotFaster f f' := by
  obtain ⟨M, N, A, B, m0, ga, gb, _⟩ := h
  by_cases z : B < A
  · exact .inl ⟨M, N, A, B, m0, ga, gb, z⟩
  · exact .inr ⟨M, N, A, B, m0, ga, gb, by omega⟩
theorem not_both {f f' : Nat → Int} (h : Faster f f') (k : NotFaster f f') : False := by
  obtain ⟨M, N, A, B, m0, ga, gb, z⟩ := id h
  have := notFaster_uniq m0 ga gb k
  omega
theorem rise_gain (s : Small hs cs g) (r : Rising (tri hs cs g)) : 0 ≤ g := by
  have a := s.gains hs.length (Nat.le_refl _)
  have b := RW.Mono.le r.2 (i := hs.length) (j := hs.length + cs.length) (by omega)
  omega
theorem Small.gapOk (s : Small hs cs g) (s' : Small hs' cs' g') (r : Rising (tri hs cs g)) (r' : Rising (tri hs' cs' g')) : GapOk (tri hs cs g) (tri hs' cs' g') := by
  obtain ⟨m0, m1, ga, gb⟩ := s.both s'
  have g0 := rise_gain s r
  have g0' := rise_gain s' r'
  obtain ⟨G, rfl⟩ : ∃ G : Nat, g = G := ⟨g.toNat, by omega⟩
  obtain ⟨G', rfl⟩ : ∃ G' : Nat, g' = G' := ⟨g'.toNat, by omega⟩
  have x := s.g12
  have x' := s'.g12
  have y : cs'.length * G ≤ 10 * 12 := Nat.mul_le_mul s'.c10 (by omega)
  have y' : cs.length * G' ≤ 10 * 12 := Nat.mul_le_mul s.c10 (by omega)
  have z : (cs'.length * G) * (cs.length * G') ≤ 120 * 120 := Nat.mul_le_mul y y'
  have b := s.bd 10
  have b' := s'.bd 10
  refine ⟨_, 10, cs'.length * G, cs.length * G', m0, by rw [Int.natCast_mul]; exact ga, by rw [Int.natCast_mul]; exact gb, by omega, by omega, by omega, by omega⟩
theorem Small.whenOk (s : Small hs cs g) (r : Rising (tri hs cs g)) (g0 : 0 < g) : WhenOk (tri hs cs g) := by
  refine when_ok (Z := 20) r.2 (fun k => RW.grows s.gains g0 k) ⟨_, _, _, s.c0, s.gains, by have := s.h10; have := s.c10; omega⟩ (fun n hn => by have := s.bd n; omega) (by omega)
theorem Small.topv (s : Small hs cs g) : tri hs cs g hs.length < (13 : Nat) := by
  have := s.val (n := hs.length) (by have := s.c0; omega)
  omega
/-- when of two small rows -/
theorem Small.pairW (s : Small hs cs g) (s' : Small hs' cs' g') (r : Rising (tri hs cs g)) (r' : Rising (tri hs' cs' g')) (g0 : 0 < g) (g0' : 0 < g') {w w' : Nat → Nat} (h : IsW (tri hs cs g) w) (h' : IsW (tri hs' cs' g') w') :
    PairOk (fun c => (w c : Int)) (fun c => (w' c : Int)) := by
  have x := s.g12
  have x' := s'.g12
  have e : g = (g.toNat : Int) := by omega
  have e' : g' = (g'.toNat : Int) := by omega
  have ga := h.gains (g := g.toNat) r.2 (by rw [← e]; exact s.gains) s.topv
  have gb := h'.gains (g := g'.toNat) r'.2 (by rw [← e']; exact s'.gains) s'.topv
  have m : g.toNat * g'.toNat ≤ 12 * 12 := Nat.mul_le_mul (by omega) (by omega)
  exact ⟨g.toNat * g'.toNat, 13, _, _, Nat.mul_pos (by omega) (by omega), ga.mul' g'.toNat, gb.mul g.toNat, by omega⟩
/-- the delay when the whens' lead is m -/
theorem told_when {f f' : Nat → Int} {w w' : Nat → Nat} {m : Int} {o : Option Nat} (hw : IsW f w) (hw' : IsW f' w') (mf : Mono f) (mf' : Mono f') (f0 : 0 ≤ f 0) (sup : IsSup (fun c => (w' c : Int)) (fun c => (w c : Int)) m) (h : RW.GapIs f f' o) : oV o = .int (max 0 m) := by
  have := RW.GapIs.uniq h (RW.gap_when hw hw' mf mf' f0 sup.1 sup.2)
  rw [this]
  show V.int (((max 0 m).toNat : Nat) : Int) = _
  congr 1
  omega
theorem told_none {f f' : Nat → Int} {w w' : Nat → Nat} {o : Option Nat} (hw : IsW f w) (hw' : IsW f' w') (fa : Faster (fun c => (w' c : Int)) (fun c => (w c : Int))) (h : RW.GapIs f f' o) : o = none := by
  obtain ⟨M, N, A, B, m0, ga, gb, z⟩ := fa
  refine RW.GapIs.uniq h (RW.gap_when_none hw hw' fun d => ?_)
  obtain ⟨n, hn⟩ := RW.faster_by ga gb z d
  exact ⟨n, hn⟩
/-- no delay is long -/
theorem Small.told (s : Small hs cs g) (s' : Small hs' cs' g') (r : Rising (tri hs cs g)) (r' : Rising (tri hs' cs' g')) {d : Nat} (h : RW.GapIs (tri hs cs g) (tri hs' cs' g') (some d)) : d ≤ 140000 := by
  apply Classical.byContradiction
  intro z
  obtain ⟨m0, m1, ga, gb⟩ := s.both s'
  obtain ⟨n, hn⟩ := h.2 140000 (by omega)
  have bdf := s.bd
  have f0 := r'.1
  have mf := r.2
  have mf' := r'.2
  have le := h.1
  have hle : ((cs'.length : Nat) : Int) * g ≤ (cs.length : Nat) * g' := by
    apply Classical.byContradiction
    intro q
    have := RW.GapIs.uniq h (RW.gap_none_fast ga gb (by omega))
    cases this
  generalize ((cs'.length : Nat) : Int) * g = A at *
  generalize ((cs.length : Nat) : Int) * g' = B at *
  generalize cs.length * cs'.length = M at *
  generalize tri hs cs g = f at *
  generalize tri hs' cs' g' = f' at *
  by_cases q : B ≤ 0
  · have b0 : 0 ≤ B := by
      have a := gb 10 (Nat.le_refl _)
      have b := RW.Mono.le mf' (i := 10) (j := 10 + M) (by omega)
      omega
    have eB : B = 0 := by omega
    subst eB
    have x := RW.flat_from m0 mf' gb (n + 140000) (by omega)
    have y := RW.flat_from m0 mf' gb (n + d) (by omega)
    have := le n
    omega
  · have key : ∀ n, f n ≤ f' (n + 140000) := fun n => by
      induction n using Nat.strongRecOn with
      | ind n ih =>
        by_cases k : n < 10 + M
        · have a := gb.many 1332 (Nat.le_refl 10)
          have b := RW.Mono.le mf' (i := 10 + 1332 * M) (j := n + 140000) (by omega)
          have c := RW.Mono.le mf' (i := 0) (j := 10) (by omega)
          have d := bdf n
          omega
        · have a := ih (n - M) (by omega)
          have b := ga (n - M) (by omega)
          have c := gb (n - M + 140000) (by omega)
          rw [show n - M + M = n by omega] at b
          rw [show n - M + 140000 + M = n + 140000 by omega] at c
          omega
    have := key n
    omega
/-- one row later, over another -/
theorem Small.aboveOk (s : Small hs cs g) (s' : Small hs' cs' g') {k : Nat} (hk : k ≤ 140000) : AboveOk (fun n => if n < k then 0 else tri hs cs g (n - k)) (tri hs' cs' g') := by
  obtain ⟨m0, m1, ga, gb⟩ := s.both s'
  refine ⟨_, 10 + k, 4000000, ((cs'.length : Nat) : Int) * g, ((cs.length : Nat) : Int) * g', m0, fun n hn => ?_, gb.mono (by omega), by omega, by decide, fun n hn => ?_⟩
  · have := ga (n - k) (by omega)
    rw [show n - k + cs.length * cs'.length = n + cs.length * cs'.length - k by omega] at this
    dsimp only
    rw [if_neg (by omega), if_neg (by omega)]
    exact this
  · have a := s.bd (n - k)
    have b := s'.bd n
    dsimp only
    by_cases z : n < k
    · rw [if_pos z]; omega
    · rw [if_neg z]; omega
theorem Small.laterOk (s : Small hs cs g) {k : Nat} (hk : k ≤ 140000) : ∃ G P N, 0 < P ∧ Gains (tri hs cs g) P G N ∧ k + N ≤ 8000000 := ⟨_, _, _, s.c0, s.gains, by have := s.h10; omega⟩
end
/-- l != [] -/
def rNe0 (K : PySem.W.Frag) : R2 := fun x y H Q => ∃ (a b : Addr) (xs : List V), x = .ref a ∧ y = .ref b ∧ SqL K H a xs ∧ SqL K H b [] ∧ Q (.bl (decide (0 < xs.length))) H
section
variable {X : Cx}
theorem op_ne0 (hu : X.A.units < cLine) : OpR X (compareOp .NotEq) (rNe0 X.K) := by
  intro pins s σ H x y v u Q I rx ry h
  obtain ⟨a, b, xs, rfl, rfl, ha, hb, q⟩ := h
  cases rx
  cases ry
  obtain ⟨its, rv, p, _⟩ := I.list ha
  obtain ⟨its2, rv2, p2, _⟩ := I.list hb
  have l1 := rv.length
  have l2 := rv2.length
  cases xs with
  | nil =>
    have e1 : its = [] := List.eq_nil_of_length_eq_zero (by simpa using l1.symm)
    have e2 : its2 = [] := List.eq_nil_of_length_eq_zero (by simpa using l2.symm)
    subst e1 e2
    exact SeqAt.RcNeAt.lists (e := fun _ => true) p.isList p2.isList rfl hu (fun j h1 _ => absurd h1 (by simp)) _ _ _ _ ⟨.bl false, H, I, rfl, q⟩
  | cons z zs =>
    exact SeqAt.RcNeAt.lists_lengths p.isList p2.isList (by simp at l1 l2; simp; omega) hu _ _ _ _ ⟨.bl true, H, I, rfl, q⟩
theorem ne0_K {K : PySem.W.Frag} (hu : X.A.units < cLine) (hK : X.K = K := by rfl) : OpR X (compareOp .NotEq) (rNe0 K) := by subst hK; exact op_ne0 hu
end
end K17
set_option Elab.async false
set_option linter.all false
set_option maxRecDepth 100000
set_option pp.maxSteps 900
set_option maxHeartbeats 4000000
/-! _law_refused(lambda: ..) -/
namespace K17
open PySem PySem.Spec PyProof.Rows L2 LamX NdefX
section
variable {X : Cx} {K : PySem.W.Frag} {mg : Str → Option Value} {k : Nat} {c P : Addr} {params : Arguments} {body : Expr} {scope : Scope} {t : XK → TE} {p lpos pos : Pos} {q : Str}
theorem pe_refused0 (T : TxtB X.prog X.K X.mg) (TB : TabB X.base X.mg c P) (hcode : X.env.code = .ref c) (hq : X.env.qual ++ "<lambda>" = q) (hmT : (P, q) ∈ tbs X.K) (hu : ∀ p ∈ tbs X.K, p.1 = P → p.2 = q) (hr : Room (k + 2) X.A) (L : LamS X.env.scope scope) (hdef : defaultsOf params X.env = ([], []))
    (hbind : ∀ (q : Str) (cl : List (Str × Addr)) (pm cv ctv : Value), bindArgs (PySem.W.kla_fn "<lambda>" q params body scope cl pm cv ctv) ⟨[], []⟩ = pure [])
    (hbody : ∀ (A : Around) (outer : List Env) (s : Shared) (H : Hp) (E : XK) (f c' : Addr), Room k (A.deeper (lamEnv X scope s.heap.objs.size f c')) → PE (lamCx X A outer s H E scope f c') body (t E)) (hg : Gl X "_law_refused" := by rfl) :
    PE X (.Call (.Name "_law_refused" p) [.Lambda params body scope lpos] [] pos) (tLam (tbs X.K) (refTT (badC X.K)) t) := by
  subst hq
  obtain ⟨fd, F⟩ := T.t.d 70 _ rfl
  have hb := FunD.bindsN F (ps := ["_law_ask"]) (fun _ _ _ _ _ _ us hl => match us, hl with | [_], _ => rfl)
  obtain ⟨oc, od, dV, kV, doc, pm, an, cdv, ct, osl, rfl, lk, hcd, _, _⟩ := F.ex
  exact pe_lamcall (Ng := ["_law_ask", "error"]) (a := "_law_ask") hg (T.t.g "_law_refused" (by decide +kernel)) F.kp lk hcd hb sc_refused rfl (.inl rfl) (ref_gives T.bad) TB hcode hmT hu hr L hdef hbind hbody
theorem pe_refused (T : TxtB X.prog K mg) (TB : TabB X.base mg c P) (hcode : X.env.code = .ref c) (hq : X.env.qual ++ "<lambda>" = q) (hmT : (P, q) ∈ tbs K) (hu : ∀ p ∈ tbs K, p.1 = P → p.2 = q) (hr : Room (k + 2) X.A) (L : LamS X.env.scope scope) (hdef : defaultsOf params X.env = ([], []))
    (hbind : ∀ (q : Str) (cl : List (Str × Addr)) (pm cv ctv : Value), bindArgs (PySem.W.kla_fn "<lambda>" q params body scope cl pm cv ctv) ⟨[], []⟩ = pure [])
    (hbody : ∀ (A : Around) (outer : List Env) (s : Shared) (H : Hp) (E : XK) (f c' : Addr), Room k (A.deeper (lamEnv X scope s.heap.objs.size f c')) → PE (lamCx X A outer s H E scope f c') body (t E)) (hK : X.K = K := by rfl) (hmg : X.mg = mg := by rfl) (hg : Gl X "_law_refused" := by rfl) :
    PE X (.Call (.Name "_law_refused" p) [.Lambda params body scope lpos] [] pos) (tLam (tbs K) (refTT (badC K)) t) := by
  subst hK; subst hmg
  exact pe_refused0 T TB hcode hq hmT hu hr L hdef hbind hbody hg
end
/-- what a refusal's reading is -/
theorem refTT_of {K : PySem.W.Frag} {C : Addr} {tl : XK → Hp → VK → Prop} {H : Hp} {Q : VK} (h : ∀ (E : XK) (Q2 : VK), (∀ (d : Addr) (v : V) (H' : Hp), (∀ l, H' l = none → Q (.ref l) (upd H' l (.lst [v]))) → H' d = some (.xd [("thing", v)]) → E (.ref C) (some d) H') → tl E H Q2) : refTT C tl H Q :=
  h _ _ fun d v H' q e => ⟨rfl, d, v, rfl, e, q⟩
end K17
set_option Elab.async false
set_option linter.all false
set_option maxRecDepth 100000
set_option maxHeartbeats 4000000
/-! the specs of gaps, one continuation each -/
namespace K17
open PySem PySem.Spec PyProof.Rows L2 LamX NdefX
section
variable {P : Program} {w : World} {K : PySem.W.Frag} {mg : Str → Option Value} {base : Heap}
def UpV (f g : Nat → Int) (v : V) : Prop := (Faster f g ∧ v = .non) ∨ (NotFaster f g ∧ ∃ m, v = .int m ∧ IsSup f g m)
theorem UpV.same {f g : Nat → Int} {a b : V} (h : UpV f g a) (k : UpV f g b) {H : Hp} : Flat0 K H a b := by
  rcases h with ⟨fa, rfl⟩ | ⟨nf, m, rfl, s⟩
  · rcases k with ⟨fa', rfl⟩ | ⟨nf', m', rfl, s'⟩
    · exact .non
    · exact (not_both fa nf').elim
  · rcases k with ⟨fa', rfl⟩ | ⟨nf', m', rfl, s'⟩
    · exact (not_both fa' nf).elim
    · rw [sup_uniq s s']
      exact .int _
def spLead2 (K : PySem.W.Frag) : Sp := fun vs H Q _ => ∃ (p q : Addr) (f g : Nat → Int), vs = [.ref p, .ref q] ∧ IsRow K H p f ∧ IsRow K H q g ∧ PairOk f g ∧ ∀ H' v, Gr K H H' → UpV f g v → Q v H'
theorem lead2 : ∀ vs H Q E, spLead2 K vs H Q E → spLead K vs H Q E := fun vs H Q E h => by
  obtain ⟨p, q, f, g, e, r1, r2, ok, fin⟩ := h
  exact ⟨p, q, f, g, e, r1, r2, ok, fun fa H' gr => fin H' _ gr (.inl ⟨fa, rfl⟩), fun nf H' m gr s => fin H' _ gr (.inr ⟨nf, m, rfl, s⟩)⟩
theorem ok_gap_up2 (X : Txt K mg) : Ok P w K mg base CX0 5 "gap_up" ["one", "other"] (spLead2 K) := (ok_gap_up X).imp lead2
theorem OkK.imp {CX : CXT} {k : Nat} {x : Str} {ps ks : List Str} {sp sp' : Sp} {g : List Value → List Value → List Value} {gV : List V → List V → List V} (O : OkK P w K mg base CX k x ps ks g gV sp) (h : ∀ vs H Q E, sp' vs H Q E → sp vs H Q E) : OkK P w K mg base CX k x ps ks g gV sp' := by
  obtain ⟨⟨fd, F, b, kb⟩, kp, gm⟩ := O
  exact ⟨⟨fd, F.imp h, b, kb⟩, kp, gm⟩
theorem okK_gap_up2 (X : Txt K mg) : OkK P w K mg base CX0 5 "gap_up" ["one", "other"] ["other", "one"] swp swp (spLead2 K) := (okK_gap_up X).imp lead2
def spLawGapUp2 (K : PySem.W.Frag) : Sp := fun vs H Q _ => ∃ (v v' : V) (hs cs : List Int) (g : Int) (hs' cs' : List Int) (g' : Int), vs = [v, v'] ∧ OwnR H v hs cs g ∧ OwnR H v' hs' cs' g' ∧ Small hs cs g ∧ Small hs' cs' g' ∧
  ∀ H' u, Gr K H H' → UpV (tri hs cs g) (tri hs' cs' g') u → Q u H'
theorem ok_law_gap_up2 (X : Txt K mg) : Ok P w K mg base CX0 3 "_law_gap_up" ["_law_one", "_law_other"] (spLawGapUp2 K) := (ok_law_gap_up X).imp fun vs H Q E h => by
  obtain ⟨v, v', hs, cs, g, hs', cs', g', e, o1, o2, s1, s2, fin⟩ := h
  exact ⟨v, v', hs, cs, g, hs', cs', g', e, o1, o2, s1, s2, fun fa H' gr => fin H' _ gr (.inl ⟨fa, rfl⟩), fun nf H' m gr s => fin H' _ gr (.inr ⟨nf, m, rfl, s⟩)⟩
def spTaken2 (K : PySem.W.Frag) : Sp := fun vs H Q _ => ∃ (p q : Addr) (f g : Nat → Int), vs = [.ref p, .ref q] ∧ Tabs (tbs K) H ∧ IsRow K H p f ∧ IsRow K H q g ∧ PairOk f g ∧
  ∀ H' v, Gr K H H' → ((Faster f g ∧ v = .non) ∨ (NotFaster f g ∧ ∃ r b, v = .ref r ∧ IsRow K H' r b ∧ IsSup f g (b 0))) → Q v H'
theorem ok_take_back2 (X : Txt K mg) (TB : TabB base mg (He.cT K ("least_of_two", none)).1 (He.cT K ("least_of_two", none)).2) : Ok P w K mg base CX0 10 "take_back" ["one", "other"] (spTaken2 K) := (ok_take_back X TB).imp fun vs H Q E h => by
  obtain ⟨p, q, f, g, e, tb, r1, r2, ok, fin⟩ := h
  exact ⟨p, q, f, g, e, tb, r1, r2, ok, fun fa H' gr => fin H' _ gr (.inl ⟨fa, rfl⟩), fun nf r H' b gr rr s => fin H' _ gr (.inr ⟨nf, r, b, rfl, rr, s⟩)⟩
def spAbove2 (K : PySem.W.Frag) : Sp := fun vs H Q _ => ∃ (p q : Addr) (f g : Nat → Int), vs = [.ref p, .ref q] ∧ IsRow K H p f ∧ IsRow K H q g ∧ AboveOk f g ∧ ∀ H' v, Gr K H H' → (((∀ n, f n ≤ g n) ∧ v = .non) ∨ ((∃ n, g n < f n) ∧ ∃ k : Int, v = .int k)) → Q v H'
theorem ok_first_above2 (X : Txt K mg) : Ok P w K mg base CX0 4 "first_above" ["one", "other"] (spAbove2 K) := (ok_first_above X).imp fun vs H Q E h => by
  obtain ⟨p, q, f, g, e, r1, r2, ok, fin⟩ := h
  exact ⟨p, q, f, g, e, r1, r2, ok, fun a H' gr => fin H' _ gr (.inl ⟨a, rfl⟩), fun a H' k gr => fin H' _ gr (.inr ⟨a, k, rfl⟩)⟩
def spIsFlat2 (K : PySem.W.Frag) : Sp := fun vs H Q _ => ∃ (v : V) (hs cs : List Int) (g : Int), vs = [v] ∧ OwnR H v hs cs g ∧ hs.length + cs.length + 1 < 64 ∧ ∀ H' b, Gr K H H' → (b = true ↔ Rising (tri hs cs g)) → Q (.bl b) H'
theorem ok_law_is_flat2 (X : Txt K mg) : Ok P w K mg base CX0 3 "_law_is_flat" ["_law_row"] (spIsFlat2 K) := (ok_law_is_flat X).imp fun vs H Q E h => by
  obtain ⟨v, hs, cs, g, e, o, z, fin⟩ := h
  exact ⟨v, hs, cs, g, e, o, z, fun r H' gr => fin H' true gr ⟨fun _ => r, fun _ => rfl⟩, fun r H' gr => fin H' false gr ⟨fun z => (nomatch z), fun k => absurd k r⟩⟩
def spLawCounts2 (K : PySem.W.Frag) : Sp := fun vs H Q _ => ∃ (v : V) (hs cs : List Int) (g : Int), vs = [v] ∧ OwnR H v hs cs g ∧ hs.length + cs.length + 1 < 64 ∧ ∀ H' b, Gr K H H' → (b = true ↔ (Rising (tri hs cs g) ∧ 0 < g)) → Q (.bl b) H'
theorem ok_law_counts2 (X : Txt K mg) : Ok P w K mg base CX0 3 "_law_counts" ["_law_row"] (spLawCounts2 K) := (ok_law_counts X).imp fun vs H Q E h => by
  obtain ⟨v, hs, cs, g, e, o, z, fin⟩ := h
  exact ⟨v, hs, cs, g, e, o, z, fun r H' gr => fin H' true gr ⟨fun _ => r, fun _ => rfl⟩, fun r H' gr => fin H' false gr ⟨fun z => (nomatch z), fun k => absurd k r⟩⟩
end
end K17
set_option Elab.async false
set_option linter.all false
set_option maxRecDepth 100000
set_option maxHeartbeats 4000000
/-! a comprehension with a test that makes rows; x if y is None -/
namespace K17
open PySem PySem.Spec PyProof.Rows L2 LamX NdefX
section
variable {K : PySem.W.Frag} {g : TG} {te : TE} {vs : List Nat} {σ : L2.St} {H1 : Hp} {D : Addr} {Qd : Hp → Prop}
theorem lc_filt {J : It} {n : Nat} {tt : TT} (B : Nat → Bool) (F : Nat → Nat → Int) (xs : Nat → V) (hD : H1 D = none) (hn : n ≤ 16777216) (hgo : ∀ i H, i < n → Gr K H1 H → J.go i H) (hst : ∀ H, Gr K H1 H → J.stop n H) (hy : ∀ i H x H', i < n → Gr K H1 H → J.yld i H x H' → H' = H ∧ x = xs i)
    (hs : ∀ i H (Q : VK) (N : Hp → Prop), i < n → Gr K H1 H → (B i = true → ∀ q H4, Gr K H H4 → IsRow K H4 q (F i) → Q (.ref q) H4) → (B i = false → ∀ H4, Gr K H H4 → N H4) → g (xs i) (wipe σ vs) H fun σ2 H2 => wipe σ2 vs = wipe σ vs ∧ tt σ2 H2 fun b H3 => if b = true then te σ2 H3 Q else N H3)
    (hd : ∀ H rs, Gr K H1 H → Rows K H D rs → rs.map (·.2) = ((List.range n).filter B).map F → Qd H) :
    ∃ W : Nat → Nat → Hp → Prop, (∃ m, W 0 m (upd H1 D (.lst []))) ∧ ∀ i m H, W i m H →
      (J.stop i H ∧ Qd H) ∨ (J.go i H ∧ ∃ Nx : Hp → Prop, (∀ H', Nx H' → ∃ m', m' < m ∧ W (i + 1) m' H') ∧ ∀ x H', J.yld i H x H' → g x (wipe σ vs) H' fun σ2 H2 => wipe σ2 vs = wipe σ vs ∧ tt σ2 H2 fun b H3 =>
        if b = true then te σ2 H3 fun y H4 => ∃ acc, H4 D = some (.lst acc) ∧ acc.length < sizeLine ∧ Nx (upd H4 D (.lst (acc ++ [y]))) else Nx H3) := by
  have rng : ∀ i, (List.range (i + 1)).filter B = (List.range i).filter B ++ (if B i = true then [i] else []) := fun i => by
    rw [List.range_succ, List.filter_append]
    congr 1
    by_cases z : B i = true
    · rw [if_pos z, List.filter_cons_of_pos z]; rfl
    · rw [if_neg z, List.filter_cons_of_neg z]; rfl
  refine lc_any (n := n) (fun i H => i ≤ n ∧ Gr K H1 H ∧ ∃ rs, Rows K H D rs ∧ rs.map (·.2) = ((List.range i).filter B).map F) ⟨Nat.zero_le _, Ge.new hD, [], ⟨upd_same, by simp⟩, rfl⟩ (fun i H hi hP => hgo i H hi hP.2.1) (fun H hP => hst H hP.2.1) (fun i x H H' hi hP hyl => ?_) (fun H hP => let ⟨rs, h1, h2⟩ := hP.2.2; hd H rs hP.2.1 h1 h2)
  obtain ⟨rfl, rfl⟩ := hy i H x H' hi hP.2.1 hyl
  obtain ⟨h0, gr, rs, ⟨hl, hr⟩, he⟩ := hP
  have len : rs.length ≤ i := by
    have := congrArg List.length he
    have l2 := List.length_filter_le B (List.range i)
    simp only [List.length_map, List.length_range] at this l2
    omega
  refine hs i H' _ _ hi gr (fun hB q H4 g4 r4 => ?_) (fun hB H4 g4 => ?_)
  · have hd4 := g4.lst hl
    refine ⟨_, hd4, sizedL (by simp; omega), hi, (gr.trans g4).put hD hd4 (by intro _ z; cases z) (by intro _ z; cases z), rs ++ [(q, F i)], ⟨?_, fun x hx => ?_⟩, ?_⟩
    · rw [upd_same, List.map_append]; rfl
    · exact row_upd (rows_snoc (l := D) (fun x hx => g4.row (hr x hx)) r4 x hx) hd4 (by intro _ _ _ z; cases z) (by intro _ z; cases z)
    · rw [List.map_append, he, rng, if_pos hB, List.map_append]; rfl
  · refine ⟨hi, gr.trans g4, rs, ⟨g4.lst hl, fun x hx => g4.row (hr x hx)⟩, ?_⟩
    rw [he, rng, if_neg (by rw [hB]; decide), List.append_nil]
end
section
variable {K : PySem.W.Frag} {σ : L2.St} {H : Hp} {Q : VK} {i : Nat} {F F' : Nat → Int}
theorem tIf_back {back : V} (hs : σ[i]? = some (some back)) (hb : (Faster F F' ∧ back = .non) ∨ (NotFaster F F' ∧ ∃ r b, back = .ref r ∧ IsRow K H r b ∧ IsSup F F' (b 0))) (h : ∀ x, UpV F F' x → Q x H) :
    tIf (tTest (tOp (fun x y H Q => y = V.non ∧ Q (V.bl (decide (x = V.non))) H) (tVar i) (tC V.non))) (tC V.non) (tMeth (rowC K) ("at" : Str) (spAt K) [] E0 (tVar i) (tCons (tC (V.int 0)) tNil)) σ H Q := by
  rcases hb with ⟨fa, rfl⟩ | ⟨nf, r, b, rfl, rb, sb⟩
  · exact ⟨_, hs, rfl, _, rfl, iteDT rfl (h _ (.inl ⟨fa, rfl⟩))⟩
  · refine ⟨_, hs, rfl, _, rfl, iteDF (fun z => by cases z) ?_⟩
    obtain ⟨t1, _, _, _, dx1, _, _, w1, _⟩ := id rb
    exact ⟨_, hs, r, _, _, rfl, w1, rfl, r, b, 0, rfl, rb, by omega, h _ (.inr ⟨nf, _, rfl, sb⟩)⟩
theorem tIf_most {most : V} (hs : σ[i]? = some (some most)) (hb : UpV F F' most) (h1 : Faster F F' → Q .non H) (h2 : ∀ m, IsSup F F' m → Q (.int (max 0 m)) H) :
    tIf (tTest (tOp (fun x y H Q => y = V.non ∧ Q (V.bl (decide (x = V.non))) H) (tVar i) (tC V.non))) (tC V.non) (tCB (fun xs H Q => ∃ i j, xs = [V.int i, V.int j] ∧ Q (V.int (if j > i then j else i)) H) (tCons (tC (V.int 0)) (tCons (tVar i) tNil))) σ H Q := by
  rcases hb with ⟨fa, rfl⟩ | ⟨nf, m, rfl, s⟩
  · exact ⟨_, hs, rfl, _, rfl, iteDT rfl (h1 fa)⟩
  · exact ⟨_, hs, rfl, _, rfl, iteDF (fun z => by cases z) ⟨_, hs, 0, m, rfl, by
      have e : (if m > 0 then m else 0) = max 0 m := by by_cases z : m > 0 <;> simp [z] <;> omega
      rw [e]; exact h2 m s⟩⟩
end
end K17
set_option Elab.async false
set_option linter.all false
set_option maxRecDepth 100000
set_option pp.maxSteps 900
set_option maxHeartbeats 4000000
namespace K17
open PySem PySem.Spec PyProof.Rows L2 LamX NdefX
section
variable {P : Program} {w : World} {K : PySem.W.Frag} {mg : Str → Option Value} {base : Heap}
theorem hu1_of (X : Txt K mg) : ∀ p ∈ tbs K, p.1 = (He.cT K ("_law_gaps_right", none)).2 → p.2 = "_law_gaps_right.<locals>.<lambda>" := fun p hp e => by
  rcases List.mem_cons.mp hp with rfl | hp
  · exact absurd e X.tb12
  · rcases List.mem_cons.mp hp with rfl | hp
    · rfl
    · rcases List.mem_cons.mp hp with rfl | hp
      · exact absurd e.symm X.tb23
      · cases hp
theorem hu2_of (X : Txt K mg) : ∀ p ∈ tbs K, p.1 = (He.cT K ("law", none)).2 → p.2 = "law.<locals>.<lambda>" := fun p hp e => by
  rcases List.mem_cons.mp hp with rfl | hp
  · exact absurd e X.tb13
  · rcases List.mem_cons.mp hp with rfl | hp
    · exact absurd e X.tb23
    · rcases List.mem_cons.mp hp with rfl | hp
      · rfl
      · cases hp
theorem inst_of {H : Hp} {p : Addr} {f : Nat → Int} (r : IsRow K H p f) : ∃ dx fs, H p = some (.ins (rowC K) dx fs) ∧ fs.lookup ("at" : Str) = none := by
  obtain ⟨t1, _, _, _, dx1, _, _, w1, _⟩ := r
  exact ⟨_, _, w1, rfl⟩
theorem sc_law_gaps_right : FnScope ["_law_draws", "_law_one", "_law_other", "_law_passed_here", "_law_far", "_law_due", "_law_back", "_law_bad", "_law_told", "_law_most", "_law_row"] ["_law_draws", "_law_one", "_law_other"] (defScope (topS 95)) := ⟨rfl, rfl, rfl, by decide +kernel, rfl, by decide +kernel, by decide +kernel⟩
def spGaps (K : PySem.W.Frag) : Sp := fun vs H Q _ => ∃ (d : Addr) (v v' : V) (n : Nat), vs = [.ref d, v, v'] ∧ Tabs (tbs K) H ∧ Dr H d n ∧ n ≤ 80000 ∧ OwnS d H v ∧ OwnS d H v' ∧ ∀ H', Gd K d H H' → Dr H' d (n + 20) → Q (.bl true) H'
set_option maxHeartbeats 16000000 in
theorem ok_law_gaps_right (X2 : TxtB P K mg) (TB : TabB base mg (He.cT K ("least_of_two", none)).1 (He.cT K ("least_of_two", none)).2) (TB1 : TabB base mg (He.cT K ("_law_gaps_right", none)).1 (He.cT K ("_law_gaps_right", none)).2) : Ok P w K mg base CX0 11 "_law_gaps_right" ["_law_draws", "_law_one", "_law_other"] (spGaps K) := by
  have X := X2.t
  have hu1 := hu1_of X
  refine ok_defC X 77 rfl sc_law_gaps_right (by decide +kernel) (fun vs H Q E h => ?_) (fun _ _ _ _ _ _ us hl => match us, hl with | [_, _, _], _ => rfl) (fun f A outer s H vs Q E hr h => ?_)
  · obtain ⟨d, v, v', n, rfl, _⟩ := h; rfl
  · obtain ⟨d, v, v', n, rfl, tb, dr, hn, ⟨hs, cs, g, ow, sm⟩, ⟨hs', cs', g', ow', sm'⟩, fin⟩ := h
    have rest : ∃ t, PSs (cxOf CX0 P w K mg base ["_law_draws", "_law_one", "_law_other", "_law_passed_here", "_law_far", "_law_due", "_law_back", "_law_bad", "_law_told", "_law_most", "_law_row"] "_law_gaps_right" (defScope (topS 95)) f (.ref (He.codeOf K ("_law_gaps_right", none))) A outer s H E).nox ((defBody (topS 95)).drop 7) t ∧
        ∀ (H' : Hp) (p q D : Addr) (back : V) (o : Option Nat) (j9 : Option V), OwnR H' v hs cs g → OwnR H' v' hs' cs' g' → IsRow K H' p (tri hs cs g) → IsRow K H' q (tri hs' cs' g') → Rising (tri hs cs g) → Rising (tri hs' cs' g') → RW.GapIs (tri hs cs g) (tri hs' cs' g') o →
          (∀ H'', Gr K H' H'' → Q (.bl true) H'') → t { nx := fun _ H' => Q .non H', rt := Q } [some (.ref d), some v, some v', some (.ref p), some (.ref q), some (oV o), some back, some (.ref D), some (oV o), j9, none] H' := by
      refine ⟨_, (pss_cons (ps_if (PW.pt (pw_or (pt_not (pt_val (pe_o (ok_same1 X) hr pass0 (pa_cons (pv 8) (pa_cons (pv 5) pa_nil))))) (pw_or (pt_cmpR op_isN (pv 8) pe_non (nomark _)) (pw_or (pt_cmpR op_gt (pe_o (ok_law_at X) hr pass0 (pa_cons (pv 1) (pa_cons pe_int pa_nil))) pe_int (nomark _)) (pw_or1 (pt_cmpR op_gt (pe_o (ok_law_at X) hr pass0 (pa_cons (pv 2) (pa_cons pe_int pa_nil))) pe_int (nomark _)))))))
  (pss_one (ps_ret (pe_o (ok_same1 X) hr pass0 (pa_cons (pv 8) (pa_cons (pv 5) pa_nil)))))
  pss_nil)
  (pss_cons (ps_if (pt_cmpR op_notN (pe_o (ok_first_above2 X) hr pass0 (pa_cons (pe_o (ok_later X) hr pass0 (pa_cons (pv 3) (pa_cons (pv 8) (pa_cons pe_int pa_nil)))) (pa_cons (pv 4) pa_nil))) pe_non (nomark _))
  (pss_one (ps_ret pe_bl))
  pss_nil)
  (pss_one (ps_ret (pe_or (pe_cmpR op_eq (pv 8) pe_int (nomark _)) (pe_one (pe_cmpR op_notN (pe_o (ok_first_above2 X) hr pass0 (pa_cons (pe_o (ok_later X) hr pass0 (pa_cons (pv 3) (pa_cons (pe_op op_sub (pv 8) pe_int) (pa_cons pe_int pa_nil)))) (pa_cons (pv 4) pa_nil))) pe_non (nomark _)))))))), ?_⟩
      intro H0 p q D back o j9 o1 o2 r1 r2 ri1 ri2 ho fin
      have fl : ∀ H, Flat0 K H (oV o) (oV o) := fun H => by
        cases o with
        | none => exact .non
        | some d => exact .int _
      have ret : ∀ H1, Gr K H0 H1 → spSame K 1 [oV o, oV o] H1 Q E0 := fun H1 g1 => ⟨_, _, rfl, .inl (fl _), fun H2 g2 => fin _ (g1.trans g2)⟩
      refine ⟨_, rfl, _, rfl, _, _, rfl, .inl (fl _), fun H1 g1 => ?_⟩
      refine ⟨_, rfl, ifF ?_⟩
      cases o with
      | none =>
        refine ⟨_, rfl, rfl, _, rfl, iteDT rfl (ifT ?_)⟩
        exact ⟨_, rfl, _, rfl, ret H1 g1⟩
      | some k =>
        have hk := sm.told sm' ri1 ri2 ho
        refine ⟨_, rfl, rfl, _, rfl, iteDF (fun z => by cases z) ?_⟩
        refine ⟨_, rfl, v, hs, cs, g, 0, rfl, o1.gr g1, by omega, ?_⟩
        refine ⟨_, _, rfl, rfl, _, rfl, iteD (fun e => ifT ⟨_, rfl, _, rfl, ret H1 g1⟩) (fun e1 => ?_)⟩
        refine ⟨_, rfl, v', hs', cs', g', 0, rfl, o2.gr g1, by omega, ?_⟩
        refine ⟨_, _, rfl, rfl, _, rfl, iteD (fun e => ⟨_, rfl, _, rfl, ret H1 g1⟩) (fun e2 => ?_)⟩
        refine ⟨_, rfl, _, rfl, p, _, k, 0, rfl, g1.row r1, sm.laterOk hk, fun r H2 g2 rr => ?_⟩
        refine ⟨_, rfl, r, q, _, _, rfl, rr, (g1.trans g2).row r2, sm.aboveOk sm' hk, fun H3 x g3 hx => ?_⟩
        obtain ⟨_, rfl⟩ : (∀ n, (fun n => if n < k then (0 : Int) else tri hs cs g (n - k)) n ≤ tri hs' cs' g' n) ∧ x = .non := by
          rcases hx with h | ⟨⟨n, hn⟩, _⟩
          · exact h
          · exfalso
            try dsimp only at hn
            by_cases z : n < k
            · rw [if_pos z] at hn
              have := RW.Mono.le ri2.2 (Nat.zero_le n)
              have := ri2.1
              omega
            · rw [if_neg z] at hn
              have := ho.1 (n - k)
              rw [show n - k + k = n by omega] at this
              omega
        have g13 := (g1.trans g2).trans g3
        refine ⟨rfl, _, rfl, ?_⟩
        rw [decide_eq_true (rfl : V.non = V.non)]
        refine ifF ?_
        refine ⟨_, rfl, rfl, _, rfl, iteD (fun e => fin _ g13) (fun e => ?_)⟩
        have k0 : k ≠ 0 := fun z => e (by subst z; rfl)
        refine ⟨_, rfl, _, rfl, _, _, rfl, rfl, p, _, k - 1, 0, by rw [show ((k - 1 : Nat) : Int) = (k : Int) - 1 by omega]; rfl, g13.row r1, sm.laterOk (by omega), fun r H4 g4 rr => ?_⟩
        refine ⟨_, rfl, r, q, _, _, rfl, rr, (g13.trans g4).row r2, sm.aboveOk sm' (by omega), fun H5 x g5 hx => ?_⟩
        obtain ⟨_, m, rfl⟩ : (∃ n, tri hs' cs' g' n < (fun n => if n < k - 1 then (0 : Int) else tri hs cs g (n - (k - 1))) n) ∧ ∃ m : Int, x = .int m := by
          rcases hx with ⟨h, _⟩ | h
          · exfalso
            obtain ⟨n, hn⟩ := ho.2 (k - 1) (by omega)
            have := h (n + (k - 1))
            try dsimp only at this
            rw [if_neg (by omega), show n + (k - 1) - (k - 1) = n by omega] at this
            omega
          · exact h
        refine ⟨rfl, ?_⟩
        rw [decide_eq_false (fun z : V.int m = V.non => by cases z)]
        exact fin _ ((g13.trans g4).trans g5)
    obtain ⟨tR, hR, hq⟩ := rest
    refine ⟨_, (pss_cons (ps_asg (pe_tup (pa_cons (pe_o (ok_law_passed X) hr pass0 (pa_cons (pv 0) (pa_cons (pv 1) pa_nil))) (pa_cons (pe_o (ok_law_passed X) hr pass0 (pa_cons (pv 0) (pa_cons (pv 2) pa_nil))) pa_nil))) (tup_K (K := K) (pgs_cons (pg_name (i := 3) sc_law_gaps_right.nd rfl (.inr rfl)) (pgs_cons (pg_name (i := 4) sc_law_gaps_right.nd rfl (.inr rfl)) pgs_nil))))
  (pss_cons (ps_par (i := 5) (j := 6) (by rfl) sc_law_gaps_right.nd rfl rfl (by decide) rfl rfl (pa_cons (pe_o (ok_law_gap_up2 X) hr pass0 (pa_cons (pv 1) (pa_cons (pv 2) pa_nil))) (pa_cons (pe_o (ok_take_back2 X TB) hr pass0 (pa_cons (pv 3) (pa_cons (pv 4) pa_nil))) pa_nil)) (by rfl))
  (pss_cons (ps_if (PW.pt (pw_or (pt_not (pt_val (pe_o (ok_same1 X) hr pass0 (pa_cons (pe_kw0 (okK_gap_up2 X) hr pass0 (pk_cons (pv 4) (pk_cons (pv 3) pk_nil))) (pa_cons (pv 5) pa_nil))))) (pw_or1 (pt_not (pt_val (pe_o (ok_same1 X) hr pass0 (pa_cons (pe_ifExp (pt_cmpR op_isN (pv 6) pe_non (nomark _)) pe_non (m1_K X (by decide +kernel) (ok_at X) hr pass0 (pv 6) (pa_cons pe_int pa_nil))) (pa_cons (pv 5) pa_nil))))))))
  (pss_one (ps_ret pe_bl))
  pss_nil)
  (pss_cons (ps_setLc (i := 7) (own := [("_law_row", 10)]) (g := (gName 10)) rfl sc_law_gaps_right.nd rfl rfl (sw_true rfl rfl rfl (by decide +kernel)) (piT_K (K := K) (pe_tup (pa_cons (pv 1) (pa_cons (pv 2) pa_nil)))) (blkOk_by (N := ["_law_draws", "_law_one", "_law_other", "_law_passed_here", "_law_far", "_law_due", "_law_back", "_law_bad", "_law_told", "_law_most", "_law_row"]) (sc := defScope (topS 95)) (by decide +kernel)) (fun _ _ _ _ _ => (pg_name (i := 10) sc_law_gaps_right.nd rfl (.inl rfl))) (fun _ _ _ _ _ => (pts_one (pt_not (pt_val (pe_o (ok_law_is_flat2 X) hr pass0 (pa_cons (pv 10) pa_nil)))))) (fun _ _ _ _ _ => (row_K X (ok_init X) hr pass0 (pa_cons (pe_ix (ixT_K (K := K)) (pv 10) pe_int (fun _ _ => rfl)) (pa_cons (pe_ix (ixT_K (K := K)) (pv 10) pe_int (fun _ _ => rfl)) (pa_cons (pe_ix (ixT_K (K := K)) (pv 10) pe_int (fun _ _ => rfl)) pa_nil))))))
  (pss_cons (ps_if (pt_cmpR (ne0_K (K := K) hr.units0) (pv 7) (pe_lst pa_nil) (nomark _))
  (pss_one (ps_ret (pe_o (ok_same1 X) hr pass0 (pa_cons (pe_refused (K := K) X2 TB1 rfl rfl (List.mem_cons_of_mem _ List.mem_cons_self) hu1 hr (lamS_by (sc := defScope (topS 95)) (by decide +kernel)) rfl (fun _ _ _ _ _ => rfl) (fun _ _ _ _ _ _ _ hr => (pe_o (ok_gap_across_bad X2) hr passE (pa_cons (pv 3) (pa_cons (pv 4) pa_nil))))) (pa_cons (pe_slice (slL_K (K := K)) (pv 7) po_none (po_some pe_int)) pa_nil)))))
  pss_nil)
  (pss_cons (ps_par (i := 5) (j := 8) (by rfl) sc_law_gaps_right.nd rfl rfl (by decide) rfl rfl (pa_cons (pe_o (ok_law_gap_across X) hr pass0 (pa_cons (pv 1) (pa_cons (pv 2) pa_nil))) (pa_cons (pe_kw0 (okK_gap_across X) hr pass0 (pk_cons (pv 3) (pk_cons (pv 4) pk_nil))) pa_nil)) (by rfl))
  (pss_cons (ps_if (PW.pt (pw_and (pt_val (pe_o (ok_law_counts2 X) hr pass0 (pa_cons (pv 1) pa_nil))) (pw_and1 (pt_val (pe_o (ok_law_counts2 X) hr pass0 (pa_cons (pv 2) pa_nil))))))
  (pss_cons (ps_set (i := 9) sc_law_gaps_right.nd rfl (.inl rfl) (pe_o (ok_gap_up2 X) hr pass0 (pa_cons (pe_o (ok_when X) hr pass0 (pa_cons (pv 4) pa_nil)) (pa_cons (pe_o (ok_when X) hr pass0 (pa_cons (pv 3) pa_nil)) pa_nil))))
  (pss_one (ps_if (pt_not (pt_val (pe_o (ok_same1 X) hr pass0 (pa_cons (pv 8) (pa_cons (pe_ifExp (pt_cmpR op_isN (pv 9) pe_non (nomark _)) pe_non (pe_callB (call_max2 rfl) (by rfl) X.b_max (by decide +kernel) (pa_cons pe_int (pa_cons (pv 9) pa_nil)))) pa_nil)))))
  (pss_one (ps_ret pe_bl))
  pss_nil)))
  pss_nil)
  hR))))))), ?_⟩
    have z1 := sm.h10
    have z2 := sm.c10
    have z3 := sm'.h10
    have z4 := sm'.c10
    refine ⟨_, rfl, _, rfl, d, v, hs, cs, g, n, rfl, dr, by omega, ow, by omega, by omega, fun H1 p g1 d1 r1 => ?_⟩
    refine ⟨_, rfl, _, rfl, d, v', hs', cs', g', n + 10, rfl, d1, by omega, ow'.gd g1 dr, by omega, by omega, fun H2 q g2 d2 r2 => ?_⟩
    refine ⟨by show 2 ≤ sizeLine; decide, fun t nt => ?_⟩
    have g3 : Gr K H2 (upd H2 t (.tup [.ref p, .ref q])) := Ge.new nt
    have h3 : upd H2 t (.tup [.ref p, .ref q]) t = some (.tup [.ref p, .ref q]) := upd_same
    generalize upd H2 t (.tup [.ref p, .ref q]) = H3 at g3 h3 ⊢
    refine ⟨t, _, rfl, .of h3, rfl, _, _, rfl, _, _, rfl, rfl, ?_⟩
    have gA := (g1.trans g2).gr g3
    have o1 := (ow.gd gA dr).own
    have o2 := (ow'.gd gA dr).own
    have r1 := g3.row (g2.row d1 r1)
    have r2 := g3.row r2
    have tb := gA.tab tb
    replace fin : ∀ H', Gr K H3 H' → Q (.bl true) H' := fun H' g => fin H' (gA.gr g) ((d2.gr g3).gr g)
    have pok := sm.pairOk sm'
    clear ow ow' dr gA g1 g2 g3 d1 d2 h3
    refine ⟨_, rfl, _, rfl, v, v', hs, cs, g, hs', cs', g', rfl, o1, o2, sm, sm', fun H4 due g4 hdue => ?_⟩
    refine ⟨_, rfl, _, rfl, p, q, _, _, rfl, g4.tab tb, g4.row r1, g4.row r2, pok, fun H5 back g5 hback => ?_⟩
    have g45 := g4.trans g5
    refine ⟨_, _, rfl, ?_⟩
    refine ⟨_, rfl, _, rfl, p, q, _, _, rfl, g45.row r1, g45.row r2, pok, fun H6 up g6 hup => ?_⟩
    refine ⟨_, rfl, up, due, rfl, .inl (hup.same hdue), fun H7 g7 => ?_⟩
    have g57 := (g45.trans g6).trans g7
    refine ⟨_, rfl, ifF ?_⟩
    refine tIf_back (F := tri hs cs g) (F' := tri hs' cs' g') (i := 6) rfl (hback.imp id fun ⟨nf, r, b, e, rb, sb⟩ => ⟨nf, r, b, e, (g6.trans g7).row rb, sb⟩) fun x hx => ?_
    refine ⟨_, rfl, x, due, rfl, .inl (hx.same hdue), fun H8 g8 => ?_⟩
    refine ⟨_, rfl, ifF ?_⟩
    have g58 := g57.trans g8
    have o1 := o1.gr g58
    have o2 := o2.gr g58
    have r1 := g58.row r1
    have r2 := g58.row r2
    have tb := g58.tab tb
    replace fin : ∀ H', Gr K H8 H' → Q (.bl true) H' := fun H' g => fin H' (g58.trans g)
    clear g58 g57 g8 g7 g6 g45 g5 g4 hback hup hx
    -- the rows that fall
    refine ⟨_, rfl, _, rfl, by show 2 ≤ sizeLine; decide, fun t2 nt2 => ?_⟩
    have ga : Gr K H8 (upd H8 t2 (.tup [v, v'])) := Ge.new nt2
    have ha : upd H8 t2 (.tup [v, v']) t2 = some (.tup [v, v']) := upd_same
    generalize upd H8 t2 (.tup [v, v']) = H9 at ga ha ⊢
    refine ⟨t2, rfl, ⟨_, .of ha⟩, fun D hD => ?_⟩
    have at_ : ∀ i, i < 2 → [v, v'][i]? = some ([v, v'].getD i .non) := fun i hi => by rw [List.getD, List.getElem?_eq_getElem (by simpa using hi)]; rfl
    have key : ∀ i, i < 2 → ∃ hs0 cs0 g0, OwnR H8 ([v, v'].getD i .non) hs0 cs0 g0 ∧ Small hs0 cs0 g0 ∧ (if i = 0 then tri hs cs g else tri hs' cs' g') = tri hs0 cs0 g0 := fun i hi => by
      rcases (show i = 0 ∨ i = 1 by omega) with rfl | rfl
      · exact ⟨hs, cs, g, o1, sm, rfl⟩
      · exact ⟨hs', cs', g', o2, sm', rfl⟩
    classical
    refine lc_filt (K := K) (n := 2) (fun i => decide (¬ Rising (if i = 0 then tri hs cs g else tri hs' cs' g'))) (fun i => if i = 0 then tri hs cs g else tri hs' cs' g') (fun i => [v, v'].getD i .non) hD (by omega) (fun i H hi g => ⟨_, _, .of (g.tup ha), at_ i hi⟩) (fun H g => ⟨_, .of (g.tup ha), Nat.le_refl _⟩) (fun i H x H' hi g h => ⟨h.1, Option.some.inj ((h.2 _ (.of (g.tup ha))).symm.trans (at_ i hi))⟩) (fun i H4 Q4 N4 hi g4 qy qn => ?_) (fun H4 rs g4 hrs ers => ?_)
    · obtain ⟨hs0, cs0, gg0, ow0, sm0, eF⟩ := key i hi
      rw [eF] at qy qn
      have ow4 := ow0.gr (ga.trans g4)
      have y1 := sm0.h10
      have y2 := sm0.c10
      generalize [v, v'].getD i .non = x0 at ow4 ⊢
      clear key at_ ow0
      refine ⟨rfl, _, rfl, _, hs0, cs0, gg0, rfl, ow4, by omega, fun H5 b g5 hb => ?_⟩
      obtain ⟨tp, la, lb, rfl, h1, h2, h3, c0, cz, hz⟩ := ow4.gr g5
      refine ⟨b, rfl, ?_⟩
      cases b with
      | true => exact ifF (qn (decide_eq_false fun z => z (hb.mp rfl)) H5 g5)
      | false =>
        refine ifT ?_
        refine ⟨_, rfl, tp, _, _, _, rfl, rfl, .of h1, rfl, _, rfl, tp, _, _, _, rfl, rfl, .of h1, rfl, _, rfl, tp, _, _, _, rfl, rfl, .of h1, rfl, fun x dx nx nd ne => ?_⟩
        exact mkRow (.inl h2) (.inl h3) c0 (by omega) (by omega) (fun b H6 g6 r6 => qy (decide_eq_true fun z => nomatch hb.mpr z) b H6 (g5.trans g6) r6) x dx nx nd ne
    · have gb := ga.trans g4
      have o1 := o1.gr gb
      have o2 := o2.gr gb
      have r1 := gb.row r1
      have r2 := gb.row r2
      have tb := gb.tab tb
      replace fin : ∀ H', Gr K H4 H' → Q (.bl true) H' := fun H' g => fin H' (gb.trans g)
      clear key at_ gb ga ha g4
      by_cases ris : Rising (tri hs cs g) ∧ Rising (tri hs' cs' g')
      · obtain ⟨ri1, ri2⟩ := ris
        obtain rfl : rs = [] := by
          rw [show List.range 2 = [0, 1] from rfl] at ers
          simp only [List.filter_cons, List.filter_nil, ri1, ri2, if_true, not_true, decide_false, Bool.false_eq_true, if_false, show (1 : Nat) ≠ 0 from by decide, List.map_nil] at ers
          exact List.map_eq_nil_iff.mp ers
        refine ⟨_, rfl, by show 0 ≤ sizeLine; decide, fun l nl => ?_⟩
        have gc : Gr K H4 (upd H4 l (.lst [])) := Ge.new nl
        refine ⟨D, l, [], rfl, rfl, .of (gc.lst hrs.1), .of upd_same, ?_⟩
        generalize upd H4 l (.lst []) = H5 at gc ⊢
        refine ⟨_, rfl, iteDF (by simp) ?_⟩
        refine ⟨_, rfl, _, rfl, v, v', hs, cs, g, hs', cs', g', rfl, o1.gr gc, o2.gr gc, sm, sm', ri1, ri2, fun H6 o g6 ho => ?_⟩
        have g46 := gc.trans g6
        refine ⟨_, rfl, _, rfl, p, q, _, _, rfl, g46.row r1, g46.row r2, ri1, ri2, sm.gapOk sm' ri1 ri2, fun H7 o' g7 ho' => ?_⟩
        obtain rfl : o' = o := RW.GapIs.uniq ho' ho
        have g47 := g46.trans g7
        refine ⟨_, _, rfl, ?_⟩
        have go : ∀ (H' : Hp) (j9 : Option V), Gr K H7 H' → tR { nx := fun _ H' => Q .non H', rt := Q } [some (.ref d), some v, some v', some (.ref p), some (.ref q), some (oV o'), some back, some (.ref D), some (oV o'), j9, none] H' := fun H' j9 g =>
          hq H' p q D back o' j9 (o1.gr (g47.trans g)) (o2.gr (g47.trans g)) ((g47.trans g).row r1) ((g47.trans g).row r2) ri1 ri2 ho fun H'' g2 => fin _ ((g47.trans g).trans g2)
        refine ⟨_, rfl, v, hs, cs, g, rfl, o1.gr g47, by omega, fun H8 b1 g8 hb1 => ?_⟩
        refine ⟨b1, rfl, ?_⟩
        cases b1 with
        | false => exact ifF (go _ _ g8)
        | true =>
          refine ifT ?_
          refine ⟨_, rfl, v', hs', cs', g', rfl, o2.gr (g47.trans g8), by omega, fun H9 b2 g9 hb2 => ?_⟩
          refine ⟨b2, rfl, ?_⟩
          cases b2 with
          | false => exact ifF (go _ _ (g8.trans g9))
          | true =>
            refine ifT ?_
            have gp := (hb1.mp rfl).2
            have gp' := (hb2.mp rfl).2
            have g49 := (g47.trans g8).trans g9
            refine ⟨_, rfl, q, _, rfl, g49.row r2, ri2, sm'.whenOk ri2 gp', fun rA HA w' gA iw' rowA => ?_⟩
            refine ⟨_, rfl, p, _, rfl, (g49.trans gA).row r1, ri1, sm.whenOk ri1 gp, fun rB HB w gB iw rowB => ?_⟩
            refine ⟨rA, rB, _, _, rfl, gB.row rowA, rowB, sm'.pairW sm ri2 ri1 gp' gp iw' iw, fun HC most gC hmost => ?_⟩
            have g7C := (((g8.trans g9).trans gA).trans gB).trans gC
            refine ⟨_, rfl, ?_⟩
            refine tIf_most (i := 9) rfl hmost (fun fa => ?_) (fun m su => ?_)
            · refine ⟨_, _, rfl, .inl (by rw [told_none iw iw' fa ho]; exact .non), fun HE gE => ?_⟩
              exact ⟨_, rfl, ifF (go _ _ (g7C.trans gE))⟩
            · refine ⟨_, _, rfl, .inl (by rw [told_when iw iw' ri1.2 ri2.2 ri1.1 su ho]; exact .int _), fun HE gE => ?_⟩
              exact ⟨_, rfl, ifF (go _ _ (g7C.trans gE))⟩
      · obtain ⟨r0, F0, rest, rfl, hF0⟩ : ∃ (r0 : Addr) (F0 : Nat → Int) (rest : List (Addr × (Nat → Int))), rs = (r0, F0) :: rest ∧ ((F0 = tri hs cs g ∧ ¬ Rising (tri hs cs g)) ∨ (Rising (tri hs cs g) ∧ F0 = tri hs' cs' g' ∧ ¬ Rising (tri hs' cs' g'))) := by
          rw [show List.range 2 = [0, 1] from rfl] at ers
          by_cases c1 : Rising (tri hs cs g)
          · have c2 : ¬ Rising (tri hs' cs' g') := fun z => ris ⟨c1, z⟩
            simp only [List.filter_cons, List.filter_nil, c1, c2, if_true, not_true, not_false_eq_true, decide_false, decide_true, Bool.false_eq_true, if_false, show (1 : Nat) ≠ 0 from by decide, List.map_cons, List.map_nil] at ers
            match rs, ers with
            | [(r0, F0)], e =>
              simp at e
              exact ⟨r0, F0, [], rfl, .inr ⟨c1, e, c2⟩⟩
          · simp only [List.filter_cons, c1, if_true, not_false_eq_true, decide_true, List.map_cons] at ers
            match rs, ers with
            | (r0, F0) :: rest, e => exact ⟨r0, F0, rest, rfl, .inl ⟨(List.cons.inj e).1, c1⟩⟩
        refine ⟨_, rfl, by show 0 ≤ sizeLine; decide, fun l nl => ?_⟩
        refine ⟨D, l, _, rfl, rfl, .of ((Ge.new (T := tbs K) nl).lst hrs.1), .of upd_same, ?_⟩
        have gc : Gr K H4 (upd H4 l (.lst [])) := Ge.new nl
        generalize upd H4 l (.lst []) = H5 at gc ⊢
        refine ⟨_, rfl, iteDT (by simp) ?_⟩
        refine ⟨gc.tab tb, fun H6 eN T6 => ?_⟩
        have g6 : Gr K H4 H6 := gc.trans ⟨eN, fun _ => T6⟩
        have hrow := g6.row (hrs.2 _ (List.mem_cons_self))
        have hD6 := g6.lst hrs.1
        replace fin : ∀ H', Gr K H6 H' → Q (.bl true) H' := fun H' g => fin H' (g6.trans g)
        have q1 := g6.row r1
        have q2 := g6.row r2
        -- what is handed on when v is refused
        have after : ∀ (x : Addr) (H8 : Hp) (l7 l8 : Addr), Gr K H6 H8 → IsRow K H8 x F0 → H8 l7 = some (.lst [.ref x]) → H8 l8 = none → spSame K 1 [.ref l7, .ref l8] (upd H8 l8 (.lst [.ref r0])) Q E0 := fun x H8 l7 l8 g8 rx h7 nl => by
          have g9 : Gr K H8 (upd H8 l8 (.lst [.ref r0])) := Ge.new nl
          refine ⟨_, _, rfl, .inr (.inl ⟨l7, l8, [.ref x], [.ref r0], rfl, rfl, .inl ⟨g9.lst h7, upd_same⟩, rfl, by simp, fun i u v hu hv => ?_⟩), fun H9 g => fin _ ((g8.trans g9).trans g)⟩
          cases i with
          | zero =>
            simp only [List.getElem?_cons_zero, Option.some.injEq] at hu hv
            subst hu hv
            exact .row ⟨F0, g9.row rx, g9.row (g8.row hrow)⟩
          | succ k => simp at hu
        have cut1 : cutV (((r0, F0) :: rest).map fun x => V.ref x.1) none (some 1) = [.ref r0] := by
          have := cut_take (xs := ((r0, F0) :: rest).map fun x => V.ref x.1) (k := 1) (by simp)
          simpa using this
        unfold refTT
        rcases hF0 with ⟨rfl, nr⟩ | ⟨ri1, rfl, nr⟩
        · refine ⟨_, rfl, _, rfl, .ref p, .ref q, rfl, .inl ⟨.inr ⟨p, _, rfl, q1, nr⟩, fun H7 dd g7 e7 => ⟨rfl, dd, _, rfl, e7, fun l7 nl7 => ?_⟩⟩⟩
          have g8 : Gr K H7 (upd H7 l7 (.lst [.ref p])) := Ge.new nl7
          refine ⟨_, rfl, _, rfl, D, _, rfl, .of ((g7.trans g8).lst hD6), fun l8 nl8 => ?_⟩
          rw [cut1]
          exact after p _ l7 l8 (g7.trans g8) ((g7.trans g8).row q1) upd_same nl8
        · refine ⟨_, rfl, _, rfl, .ref p, .ref q, rfl, .inr ⟨⟨p, _, rfl, q1, ri1⟩, .inr ⟨q, _, rfl, q2, nr⟩, fun H7 dd g7 e7 => ⟨rfl, dd, _, rfl, e7, fun l7 nl7 => ?_⟩⟩⟩
          have g8 : Gr K H7 (upd H7 l7 (.lst [.ref q])) := Ge.new nl7
          refine ⟨_, rfl, _, rfl, D, _, rfl, .of ((g7.trans g8).lst hD6), fun l8 nl8 => ?_⟩
          rw [cut1]
          exact after q _ l7 l8 (g7.trans g8) ((g7.trans g8).row q2) upd_same nl8
end
end K17
set_option Elab.async false
set_option linter.all false
set_option maxRecDepth 100000
set_option pp.maxSteps 900
set_option maxHeartbeats 4000000
namespace K17
open PySem PySem.Spec PyProof.Rows L2 LamX NdefX
section
variable {P : Program} {w : World} {K : PySem.W.Frag} {mg : Str → Option Value} {base : Heap}
structure TxtL (P : Program) (K : PySem.W.Frag) (mg : Str → Option Value) : Prop where
  b : TxtB P K mg
  dr : ∃ o, K.lookup (He.ga K "_law_draw") = some o ∧ o.cls = .type "function"
theorem OddV.notRow (T : TxtL P K mg) {H : Hp} {v : V} (h : OddV K H v) : NotRow K H v := by
  have X := T.b.t
  cases h with
  | non => exact ⟨_, .of (.base .non), X.isT "NoneType" (by decide +kernel)⟩
  | int => exact ⟨_, .of (.base (.int 5)), X.isT "int" (by decide +kernel)⟩
  | str => exact ⟨_, .of (.base (.str "row")), X.isT "str" (by decide +kernel)⟩
  | bl => exact ⟨_, .of (.base (.bl true)), X.isT "bool" (by decide +kernel)⟩
  | nil h => exact ⟨_, .of (.base (.lst h)), X.isT "list" (by decide +kernel)⟩
  | one h => exact ⟨_, .of (.base (.lst h)), X.isT "list" (by decide +kernel)⟩
  | tup h h1 h2 => exact ⟨_, .of (.base (.tup h)), X.isT "tuple" (by decide +kernel)⟩
  | dct h => exact ⟨_, .of (.base (.dK h)), X.isT "dict" (by decide +kernel)⟩
  | fn =>
    obtain ⟨o, e, c⟩ := T.dr
    exact ⟨_, .fn e c, X.isT "function" (by decide +kernel)⟩
theorem OddV.same (T : TxtL P K mg) {H : Hp} {v : V} (h : OddV K H v) : SameV K 2 H v v := by
  have z : ∀ {i : Nat} {u w : V}, [V.int 0][i]? = some u → [V.int 0][i]? = some w → Flat0 K H u w := fun {i u w} hu hw => by
    cases i with
    | zero =>
      simp only [List.getElem?_cons_zero, Option.some.injEq] at hu hw
      subst hu hw
      exact .int 0
    | succ i => simp at hu
  cases h with
  | non => exact .inl .non
  | int => exact .inl (.int 5)
  | str => exact .inl (.str _)
  | bl => exact .inl (.bl true)
  | @nil a h => exact .inr (.inl ⟨a, a, [], [], rfl, rfl, .inl ⟨h, h⟩, rfl, by simp, fun i u w hu _ => by simp at hu⟩)
  | @one a h => exact .inr (.inl ⟨a, a, _, _, rfl, rfl, .inl ⟨h, h⟩, rfl, by simp, fun i u w hu hw => .inl (z hu hw)⟩)
  | @tup a b c h h1 h2 =>
    refine .inr (.inl ⟨a, a, _, _, rfl, rfl, .inr ⟨h, h⟩, rfl, by simp, fun i u w hu hw => ?_⟩)
    match i with
    | 0 =>
      simp only [List.getElem?_cons_zero, Option.some.injEq] at hu hw
      subst hu hw
      exact .inr (.inl ⟨b, b, [], [], rfl, rfl, .inl ⟨h1, h1⟩, rfl, by simp, fun i u w hu _ => by simp at hu⟩)
    | 1 =>
      simp only [List.getElem?_cons_succ, List.getElem?_cons_zero, Option.some.injEq] at hu hw
      subst hu hw
      exact .inr (.inl ⟨c, c, _, _, rfl, rfl, .inl ⟨h2, h2⟩, rfl, by simp, fun i u w hu hw => z hu hw⟩)
    | 2 =>
      simp only [List.getElem?_cons_succ, List.getElem?_cons_zero, Option.some.injEq] at hu hw
      subst hu hw
      exact .inl (.int 1)
    | i + 3 => simp at hu
  | @dct a h => exact .inr (.inr ⟨Nat.le_refl 1, a, a, rfl, rfl, h, h⟩)
  | fn =>
    obtain ⟨o, e, c⟩ := T.dr
    exact .inl (.fn e c)
theorem OddV.gd {d : Addr} {n : Nat} {H H' : Hp} {v : V} (g : Gr K H H') (h : OddV K H v) : OddV K H' v := by
  cases h with
  | non => exact .non
  | int => exact .int
  | str => exact .str
  | bl => exact .bl
  | nil h => exact .nil (g.lst h)
  | one h => exact .one (g.lst h)
  | tup h h1 h2 => exact .tup (g.tup h) (g.lst h1) (g.lst h2)
  | dct h => exact .dct (g.at h)
  | fn => exact .fn
/-- the script stays while fresh draws are written -/
theorem sqL_gd {d a : Addr} {xs : List V} {H H1 : Hp} (g : Gd K d H H1) (nd : H d = none) (h : SqL K H a xs) : SqL K H1 a xs := by
  rcases h with h | h
  · refine .inl ?_
    have ne : a ≠ d := fun z => by
      rcases h with h | ⟨ob, h⟩ <;> rw [z, nd] at h <;> cases h
    rcases h with h | ⟨ob, h⟩
    · exact .inl (g.lst ne h)
    · exact .inr ⟨ob, g.ext a _ ne h (by intro _ z; cases z)⟩
  · exact .inr h
def rise1 : RW.Tri := ⟨[], [0], 1⟩
def fall1 : RW.Tri := ⟨[], [2], -1⟩
theorem rise1_at (n : Nat) : RW.ev ⟨[], [0], 1⟩ n = n := by
  rw [RW.ev_high (by simp)]
  unfold RW.evc
  simp [Nat.mod_one]
theorem rise1_rising : Rising (RW.ev ⟨[], [0], 1⟩) := ⟨by rw [rise1_at]; omega, fun n => by rw [rise1_at, rise1_at]; omega⟩
theorem fall1_not : ¬ Rising (RW.ev ⟨[], [2], -1⟩) := fun h => by
  have := h.2 0
  rw [RW.ev_high (by simp), RW.ev_high (by simp)] at this
  unfold RW.evc at this
  simp at this
end
end K17
set_option Elab.async false
set_option linter.all false
set_option maxRecDepth 100000
set_option pp.maxSteps 900
set_option maxHeartbeats 4000000
namespace K17
open PySem PySem.Spec PyProof.Rows L2 LamX NdefX
section
variable {P : Program} {w : World} {K : PySem.W.Frag} {mg : Str → Option Value} {base : Heap}
theorem ownS_gd {d : Addr} {n : Nat} {H H' : Hp} {v : V} (h : OwnS d H v) (x : Gd K d H H') (dr : Dr H d n) : OwnS d H' v := by
  obtain ⟨hs, cs, g, o, s⟩ := h
  exact ⟨hs, cs, g, o.gd x dr, s⟩
theorem ownF_c0 {H H' : Hp} {v : V} {hs cs : List Int} {g : Int} (h : OwnF H H' v hs cs g) : 0 < cs.length := by
  obtain ⟨_, _, _, _, _, _, _, h4, _⟩ := h
  exact h4
theorem mkRow2 {H : Hp} {a c : Addr} {hs cs : List Int} {g : Int} {R : VK} (ha : Sq H a (hs.map V.int)) (hc : Sq H c (cs.map V.int)) (h0 : 0 < cs.length) (hz : cs.length ≤ 8000000) (hzh : hs.length ≤ 8000000) {x dx : Addr} (nx : H x = none) (nd : H dx = none) (ne : dx ≠ x)
    (q : ∀ H', Gr K H H' → IsRow K H' x (RW.ev ⟨hs, cs, g⟩) → R .non H') : spInit K (.ref x :: ([.ref a, .ref c, .int g] ++ [])) (upd (upd H dx (.own x)) x (.ins (rowC K) dx [])) R E0 := by
  obtain ⟨x', dx', a', c', hs', cs', g', e, h1, h2, h3, z1, z2, z3, k⟩ := mkRow (Q := fun v H2 => v = .ref x → R .non H2) ha hc h0 hz hzh (fun p H' g r e => by cases e; exact q H' g r) x dx nx nd ne
  exact ⟨x', dx', a', c', hs', cs', g', e, h1, h2, h3, z1, z2, z3, fun H' e r t b1 b2 b3 b4 b5 => (k H' e r t b1 b2 b3 b4 b5).2 rfl⟩
theorem sc_law : FnScope ["_law_script", "_law_turn", "_law_draws", "_law_firsts", "_law_rows", "_law_pair", "_law_odd", "_law_good_one", "_law_found", "_law_falling", "_law_first"] ["_law_script"] (defScope (topS 96)) := ⟨rfl, rfl, rfl, by decide +kernel, rfl, by decide +kernel, by decide +kernel⟩
def spLaw (K : PySem.W.Frag) : Sp := fun vs H Q _ => ∃ (a : Addr) (ns : List Int), vs = [.ref a] ∧ Tabs (tbs K) H ∧ SqL K H a (ns.map V.int) ∧ ns.length ≤ 63 ∧ ∀ H', Q (.bl true) H'
theorem fn_defC {k : Nat} {x : Str} {N ps : List Str} {sp : Sp} {st : Stmt} {fd : FuncData} (F : FunD K x x (defArgs st) (defBody st) (defScope st) [] [] (He.ga K x) fd) (S : FnScope N ps (defScope st)) (len : ∀ vs H Q E, sp vs H Q E → vs.length = ps.length)
    (hbody : ∀ (f : Addr) (A : Around) (outer : List Env) (s : Shared) (H : Hp) (vs : List V) (Q : VK) (E : XK), Room k (A.deeper (envOfC x (defScope st) s.heap.objs.size f (.ref (He.codeOf K (x, none))))) → sp vs H Q E →
      ∃ t, PSs (cxOf CX0 P w K mg base N x (defScope st) f (.ref (He.codeOf K (x, none))) A outer s H E).nox (defBody st) t ∧ t { nx := fun _ H' => Q .non H', rt := Q } (start N vs) H) : FnOk P w K mg base CX0 (k + 1) (He.ga K x) fd ps sp := by
  obtain ⟨oc, od, dV, kV, doc, pm, an, cdv, ct, osl, efd, lk, hcd, hD, hK⟩ := F.ex
  obtain ⟨c, rfl⟩ := He.codeIn_ref hcd
  have ec : He.codeOf K (x, none) = c := He.codeOf_eq lk (by rw [efd])
  subst efd
  refine fn_of lk hcd S len fun A outer s H vs Q E hr hsp => ?_
  rw [← ec]
  rw [← ec] at hr
  obtain ⟨t, h1, h2⟩ := hbody _ A outer s H vs Q E hr hsp
  exact ⟨t, h1.nox, h2⟩
set_option maxHeartbeats 16000000 in
theorem law_fn (T : TxtL P K mg) (TB : TabB base mg (He.cT K ("least_of_two", none)).1 (He.cT K ("least_of_two", none)).2) (TB1 : TabB base mg (He.cT K ("_law_gaps_right", none)).1 (He.cT K ("_law_gaps_right", none)).2) (TB2 : TabB base mg (He.cT K ("law", none)).1 (He.cT K ("law", none)).2) {fd : FuncData} (F : FunD K "law" "law" (defArgs (topS 96)) (defBody (topS 96)) (defScope (topS 96)) [] [] (He.ga K "law") fd) : FnOk P w K mg base CX0 20 (He.ga K "law") fd ["_law_script"] (spLaw K) := by
  have X2 := T.b
  have X := X2.t
  have hu2 := hu2_of X
  refine fn_defC F sc_law (fun vs H Q E h => ?_) (fun f A outer s H vs Q E hr h => ?_)
  · obtain ⟨a, ns, rfl, _⟩ := h; rfl
  · obtain ⟨a, ns, rfl, tb, sq, hn, fin⟩ := h
    refine ⟨_, (pss_cons (ps_for PassesOwn.never rfl (pi_range1 (by rfl) X.b_range (pa_cons (pe_op op_add pe_int (pe_callB (call_min2 rfl) (by rfl) X.b_min (by decide +kernel) (pa_cons (pe_callB (len_K (K := K)) (by rfl) X.b_len (by decide +kernel) (pa_cons (pv 0) pa_nil)) (pa_cons pe_int pa_nil)))) pa_nil)) (pg_name (i := 1) sc_law.nd rfl (.inl rfl))
  (pss_cons (ps_set (i := 2) sc_law.nd rfl (.inr rfl) (pe_o (ok_law_source X) hr pass0 (pa_cons (pv 0) (pa_cons (pv 1) pa_nil))))
  (pss_cons (ps_set (i := 3) sc_law.nd rfl (.inl rfl) (pe_o (ok_law_pick X) hr pass0 (pa_cons (pv 2) (pa_cons (pe_lst (pa_cons (pe_tup (pa_cons pe_int (pa_cons pe_int pa_nil))) (pa_cons (pe_tup (pa_cons pe_int (pa_cons pe_int pa_nil))) (pa_cons (pe_tup (pa_cons pe_int (pa_cons pe_int pa_nil))) (pa_cons (pe_tup (pa_cons pe_int (pa_cons pe_int pa_nil))) pa_nil))))) pa_nil))))
  (pss_cons (ps_setLc (i := 4) (own := [("_law_first", 10)]) (g := (gName 10)) (tt := tYes) rfl sc_law.nd rfl rfl (sw_true rfl rfl rfl (by decide +kernel)) (piT_K (K := K) (pv 3)) (blkOk_by (N := ["_law_script", "_law_turn", "_law_draws", "_law_firsts", "_law_rows", "_law_pair", "_law_odd", "_law_good_one", "_law_found", "_law_falling", "_law_first"]) (sc := defScope (topS 96)) (by decide +kernel)) (fun _ _ _ _ _ => (pg_name (i := 10) sc_law.nd rfl (.inl rfl))) (fun _ _ _ _ _ => pts_nil) (fun _ _ _ _ _ => (pe_o (ok_law_counting X) hr pass0 (pa_cons (pv 2) (pa_cons (pv 10) pa_nil)))))
  (pss_cons (ps_if (pt_not (pt_val (pe_o (ok_law_pairs_turned_right X2 TB) hr pass0 (pa_cons (pv 2) (pa_cons (pv 4) pa_nil)))))
  (pss_one (ps_ret pe_bl))
  pss_nil)
  (pss_cons (ps_for PassesOwn.never rfl (piT_K (K := K) (pe_tup (pa_cons (pv 4) (pa_cons (pe_o (ok_law_flat_pair X) hr pass0 (pa_cons (pv 2) pa_nil)) (pa_cons (pe_lst (pa_cons (pe_o (ok_law_drawn X) hr pass0 (pa_cons (pv 2) (pa_cons pe_int pa_nil))) (pa_cons (pe_o (ok_law_drawn X) hr pass0 (pa_cons (pv 2) (pa_cons pe_int pa_nil))) pa_nil))) pa_nil))))) (pg_name (i := 5) sc_law.nd rfl (.inl rfl))
  (pss_one (ps_if (pt_not (pt_val (pe_o (ok_law_gaps_right X2 TB TB1) hr pass0 (pa_cons (pv 2) (pa_cons (pe_ix (ixL_K (K := K)) (pv 5) pe_int (fun _ _ => rfl)) (pa_cons (pe_ix (ixL_K (K := K)) (pv 5) pe_int (fun _ _ => rfl)) pa_nil))))))
  (pss_one (ps_ret pe_bl))
  pss_nil)))
  (pss_cons (ps_asg (pe_tup (pa_cons (pe_o (ok_law_odd_row X) hr pass0 (pa_cons (pv 2) pa_nil)) (pa_cons (row_K X (ok_init X) hr pass0 (pa_cons (pe_lst pa_nil) (pa_cons (pe_lst (pa_cons pe_int pa_nil)) (pa_cons pe_int pa_nil)))) pa_nil))) (tup_K (K := K) (pgs_cons (pg_name (i := 6) sc_law.nd rfl (.inr rfl)) (pgs_cons (pg_name (i := 7) sc_law.nd rfl (.inr rfl)) pgs_nil))))
  (pss_cons (ps_set (i := 8) sc_law.nd rfl (.inl rfl) (pe_refused (K := K) X2 TB2 rfl rfl (List.mem_cons_of_mem _ (List.mem_cons_of_mem _ List.mem_cons_self)) hu2 hr (lamS_by (sc := defScope (topS 96)) (by decide +kernel)) rfl (fun _ _ _ _ _ => rfl) (fun _ _ _ _ _ _ _ hr => (pe_o (ok_gap_up_bad X2) hr passE (pa_cons (pv 6) (pa_cons pe_non pa_nil))))))
  (pss_cons (ps_set (i := 8) sc_law.nd rfl (.inl rfl) (pe_op op_cat (pv 8) (pe_refused (K := K) X2 TB2 rfl rfl (List.mem_cons_of_mem _ (List.mem_cons_of_mem _ List.mem_cons_self)) hu2 hr (lamS_by (sc := defScope (topS 96)) (by decide +kernel)) rfl (fun _ _ _ _ _ => rfl) (fun _ _ _ _ _ _ _ hr => (pe_o (ok_gap_up_bad X2) hr passE (pa_cons (pv 7) (pa_cons (pv 6) pa_nil)))))))
  (pss_cons (ps_set (i := 8) sc_law.nd rfl (.inl rfl) (pe_op op_cat (pv 8) (pe_refused (K := K) X2 TB2 rfl rfl (List.mem_cons_of_mem _ (List.mem_cons_of_mem _ List.mem_cons_self)) hu2 hr (lamS_by (sc := defScope (topS 96)) (by decide +kernel)) rfl (fun _ _ _ _ _ => rfl) (fun _ _ _ _ _ _ _ hr => (pe_o (ok_gap_across_bad X2) hr passE (pa_cons (pv 6) (pa_cons pe_non pa_nil)))))))
  (pss_cons (ps_set (i := 8) sc_law.nd rfl (.inl rfl) (pe_op op_cat (pv 8) (pe_refused (K := K) X2 TB2 rfl rfl (List.mem_cons_of_mem _ (List.mem_cons_of_mem _ List.mem_cons_self)) hu2 hr (lamS_by (sc := defScope (topS 96)) (by decide +kernel)) rfl (fun _ _ _ _ _ => rfl) (fun _ _ _ _ _ _ _ hr => (pe_o (ok_gap_across_bad X2) hr passE (pa_cons (pv 7) (pa_cons (pv 6) pa_nil)))))))
  (pss_cons (ps_if (pt_not (pt_val (pe_o (ok_same3 X) hr pass0 (pa_cons (pv 8) (pa_cons (pe_op op_rep (pe_lst (pa_cons (pv 6) pa_nil)) pe_int) pa_nil)))))
  (pss_one (ps_ret pe_bl))
  pss_nil)
  (pss_cons (ps_set (i := 9) sc_law.nd rfl (.inr rfl) (row_K X (ok_init X) hr pass0 (pa_cons (pe_lst pa_nil) (pa_cons (pe_lst (pa_cons pe_int pa_nil)) (pa_cons (pe_op op_sub pe_int pe_int) pa_nil)))))
  (pss_one (ps_if (pt_not (pt_val (pe_o (ok_same3 X) hr pass0 (pa_cons (pe_refused (K := K) X2 TB2 rfl rfl (List.mem_cons_of_mem _ (List.mem_cons_of_mem _ List.mem_cons_self)) hu2 hr (lamS_by (sc := defScope (topS 96)) (by decide +kernel)) rfl (fun _ _ _ _ _ => rfl) (fun _ _ _ _ _ _ _ hr => (pe_o (ok_gap_across_bad X2) hr passE (pa_cons (pv 9) (pa_cons (pv 6) pa_nil))))) (pa_cons (pe_lst (pa_cons (pv 9) pa_nil)) pa_nil)))))
  (pss_one (ps_ret pe_bl))
  pss_nil)))))))))))))))
  (pss_one (ps_ret pe_bl))), ?_⟩
    refine ⟨_, rfl, a, _, rfl, .inl sq, ?_⟩
    refine ⟨_, _, rfl, _, _, rfl, rfl, ((3 + min ns.length 3 : Nat) : Int), ?_, by omega, by omega, ?_⟩
    · have e : (3 + if (3 : Int) < ((ns.map V.int).length : Int) then 3 else ((ns.map V.int).length : Int)) = ((3 + min ns.length 3 : Nat) : Int) := by
        rw [List.length_map]
        by_cases z : (3 : Int) < ns.length
        · rw [if_pos z]; omega
        · rw [if_neg z]; omega
      exact congrArg (fun z => [V.int z]) e
    rw [Int.toNat_natCast]
    refine for_any (n := 3 + min ns.length 3) (fun i σ H' => Tabs (tbs K) H' ∧ SqL K H' a (ns.map V.int) ∧ ∃ j1 j2 j3 j4 j5 j6 j7 j8 j9 : Option V, σ = [some (.ref a), j1, j2, j3, j4, j5, j6, j7, j8, j9, none])
      ⟨tb, sq, none, none, none, none, none, none, none, none, none, rfl⟩ (fun i σ H hi _ => hi) (fun σ H _ => Nat.le_refl _) (fun i x σ H0 H1 hi h hy => ?_) (fun σ H1 h => fin _)
    obtain ⟨rfl, rfl⟩ := hy
    obtain ⟨tb, sq, j1, j2, j3, j4, j5, j6, j7, j8, j9, rfl⟩ := h
    refine ⟨_, rfl, _, rfl, a, ns, i, by rw [Int.zero_add]; rfl, sq, hn, by omega, fun H2 d g2 nd d2 => ?_⟩
    have gd2 : Gd K d H1 H2 := Gd.of g2
    -- the firsts
    refine ⟨_, rfl, by show 2 ≤ sizeLine; decide, fun t1 n1 => ?_⟩
    have k1 : Gr K H2 (upd H2 t1 (.tup [.int 0, .int 0])) := Ge.new n1
    have c1 : upd H2 t1 (.tup [.int 0, .int 0]) t1 = some (.tup [.int 0, .int 0]) := upd_same
    generalize upd H2 t1 (.tup [.int 0, .int 0]) = H3 at k1 c1 ⊢
    refine ⟨by show 2 ≤ sizeLine; decide, fun t2 n2 => ?_⟩
    have k2 : Gr K H3 (upd H3 t2 (.tup [.int 0, .int 0])) := Ge.new n2
    have c2 : upd H3 t2 (.tup [.int 0, .int 0]) t2 = some (.tup [.int 0, .int 0]) := upd_same
    generalize upd H3 t2 (.tup [.int 0, .int 0]) = H4 at k2 c2 ⊢
    refine ⟨by show 2 ≤ sizeLine; decide, fun t3 n3 => ?_⟩
    have k3 : Gr K H4 (upd H4 t3 (.tup [.int 0, .int 2])) := Ge.new n3
    have c3 : upd H4 t3 (.tup [.int 0, .int 2]) t3 = some (.tup [.int 0, .int 2]) := upd_same
    generalize upd H4 t3 (.tup [.int 0, .int 2]) = H5 at k3 c3 ⊢
    refine ⟨by show 2 ≤ sizeLine; decide, fun t4 n4 => ?_⟩
    have k4 : Gr K H5 (upd H5 t4 (.tup [.int 1, .int 1])) := Ge.new n4
    have c4 : upd H5 t4 (.tup [.int 1, .int 1]) t4 = some (.tup [.int 1, .int 1]) := upd_same
    generalize upd H5 t4 (.tup [.int 1, .int 1]) = H6 at k4 c4 ⊢
    refine ⟨by show 4 ≤ sizeLine; decide, fun l nl => ?_⟩
    have k5 : Gr K H6 (upd H6 l (.lst [.ref t1, .ref t2, .ref t3, .ref t4])) := Ge.new nl
    have c5 : upd H6 l (.lst [.ref t1, .ref t2, .ref t3, .ref t4]) l = some (.lst [.ref t1, .ref t2, .ref t3, .ref t4]) := upd_same
    have g26 := ((k1.trans k2).trans k3).trans k4
    have nel := (d2.gr g26).fresh nl
    generalize upd H6 l (.lst [.ref t1, .ref t2, .ref t3, .ref t4]) = H7 at k5 c5 ⊢
    have g27 := g26.trans k5
    refine ⟨d, l, _, 0, rfl, d2.gr g27, by omega, c5, nel, by simp, by simp, fun vf H8 hvf gd8 d8 => ?_⟩
    have dr7 := d2.gr g27
    obtain ⟨tf, f1, f2, rfl, htf, b1, b2, b3, b4⟩ : ∃ (tf : Addr) (f1 f2 : Int), vf = .ref tf ∧ H8 tf = some (.tup [.int f1, .int f2]) ∧ 0 ≤ f1 ∧ f1 ≤ 2 ∧ 0 ≤ f2 ∧ f2 ≤ 2 := by
      simp only [List.mem_cons, List.not_mem_nil, or_false] at hvf
      rcases hvf with rfl | rfl | rfl | rfl
      · exact ⟨t1, 0, 0, rfl, gd8.tup dr7 ((((k2.trans k3).trans k4).trans k5).tup c1), by omega, by omega, by omega, by omega⟩
      · exact ⟨t2, 0, 0, rfl, gd8.tup dr7 (((k3.trans k4).trans k5).tup c2), by omega, by omega, by omega, by omega⟩
      · exact ⟨t3, 0, 2, rfl, gd8.tup dr7 ((k4.trans k5).tup c3), by omega, by omega, by omega, by omega⟩
      · exact ⟨t4, 1, 1, rfl, gd8.tup dr7 (k5.tup c4), by omega, by omega, by omega, by omega⟩
    have gd28 : Gd K d H1 H8 := (Gd.of (g2.trans g27)).trans gd8
    have tb8 := gd28.tab tb
    have sq8 := sqL_gd gd28 nd sq
    clear k1 k2 k3 k4 k5 c1 c2 c3 c4 c5 n1 n2 n3 n4 nl nel g26 g27 dr7 gd8 d2 g2 gd2 hvf t1 t2 t3 t4 l H2 H3 H4 H5 H6 H7
    -- the rows
    refine ⟨_, rfl, tf, rfl, ⟨_, .of htf⟩, fun D hD => ?_⟩
    have nD := d8.fresh hD
    have at_ : ∀ i, i < 2 → [V.int f1, V.int f2][i]? = some (.int (if i = 0 then f1 else f2)) := fun i hi => by
      rcases (show i = 0 ∨ i = 1 by omega) with rfl | rfl <;> rfl
    refine lc_own (K := K) (n := 2) (c := 20) (fun _ => OwnP d D (fun hs cs g => ∃ first, 0 ≤ first ∧ Risen hs cs g first ∧ 0 < g)) (fun i => .int (if i = 0 then f1 else f2)) (fun _ _ _ _ _ g dr h => h.mono g dr) (fun _ _ _ _ _ hD h => h.updD hD) hD (by omega) d8 (fun i H hi g _ => ⟨_, _, .of (g.tup d8 htf), at_ i hi⟩) (fun H g _ => ⟨_, .of (g.tup d8 htf), Nat.le_refl _⟩) (fun i H x H' hi g _ h => ⟨h.1, Option.some.inj ((h.2 _ (.of (g.tup d8 htf))).symm.trans (at_ i hi))⟩) (fun i H2 Q2 hi g2 d2 hacc q2 => ?_) (fun H2 ws g2 d2 hw hlen hR => ?_)
    · obtain ⟨acc, hacc⟩ := hacc
      have z0 : 0 ≤ (if i = 0 then f1 else f2) ∧ (if i = 0 then f1 else f2) ≤ 2 := by split <;> omega
      generalize (if i = 0 then f1 else f2) = fi at z0 ⊢
      refine ⟨rfl, _, rfl, _, rfl, d, _, fi, rfl, d2, by omega, z0.1, z0.2, fun H4 v hs cs g g4 d4 ow ri g0 => ?_⟩
      exact q2 v H4 g4 (d4.mono (by omega)) ⟨hs, cs, g, ow.dr d2, ow.ne hacc, fi, z0.1, ri, g0⟩
    obtain ⟨v, v', rfl⟩ : ∃ v v', ws = [v, v'] := by
      match ws, hlen with
      | [a, b], _ => exact ⟨a, b, rfl⟩
    obtain ⟨hs, cs, g, ow, _, fa, fa0, ri, g0⟩ := hR 0 v rfl
    obtain ⟨hs', cs', g', ow', _, fb, fb0, ri', g0'⟩ := hR 1 v' rfl
    have tb2 := g2.tab tb8
    have gdA := gd28.trans g2
    clear hR at_ tb8 sq8 d8 htf gd28
    refine ⟨_, rfl, _, rfl, d, D, v, v', hs, cs, g, hs', cs', g', fa, fb, _, rfl, tb2, d2, by omega, hw, nD, ow, ow', ri, ri', g0, g0', fa0, fb0, fun H3 g3 d3 => ?_⟩
    refine ⟨_, rfl, ifF ?_⟩
    -- the pairs
    have tb3 := g3.tab tb2
    have gd3 := gdA.trans g3
    have o1 : OwnS d H3 v := ⟨hs, cs, g, ow.gd g3 d2, ri.small⟩
    have o1' : OwnS d H3 v' := ⟨hs', cs', g', ow'.gd g3 d2, ri'.small⟩
    have hw3 := g3.lst nD hw
    clear ow ow' hw g3 gdA tb2 d2 ri ri' fa0 fb0 g0 g0'
    refine ⟨_, rfl, _, rfl, d, _, rfl, d3, by omega, fun H4 l2 w w' g4 d4 hl2 nl2 o2 o2' => ?_⟩
    refine ⟨_, rfl, d, _, rfl, d4, by omega, fun H5 x hx cx gx g5 d5 owx drx => ?_⟩
    refine ⟨_, rfl, d, _, rfl, d5, by omega, fun H6 y hy cy gy g6 d6 owy dry => ?_⟩
    refine ⟨by show 2 ≤ sizeLine; decide, fun l3 n3 => ?_⟩
    have k3 : Gr K H6 (upd H6 l3 (.lst [x, y])) := Ge.new n3
    have c3 : upd H6 l3 (.lst [x, y]) l3 = some (.lst [x, y]) := upd_same
    have nl3 := d6.fresh n3
    generalize upd H6 l3 (.lst [x, y]) = H7 at k3 c3 ⊢
    refine ⟨by show 3 ≤ sizeLine; decide, fun tp ntp => ?_⟩
    have k4 : Gr K H7 (upd H7 tp (.tup [.ref D, .ref l2, .ref l3])) := Ge.new ntp
    have c4 : upd H7 tp (.tup [.ref D, .ref l2, .ref l3]) tp = some (.tup [.ref D, .ref l2, .ref l3]) := upd_same
    generalize upd H7 tp (.tup [.ref D, .ref l2, .ref l3]) = H8 at k4 c4 ⊢
    have d8 := (d6.gr k3).gr k4
    have o3 : OwnS d H8 x := ownS_gd (ownS_gd ⟨hx, cx, gx, owx.dr d4, drx.small (ownF_c0 owx)⟩ g6 d5) ((Gd.of k3).gr k4) d6
    have o3' : OwnS d H8 y := ownS_gd ⟨hy, cy, gy, owy.dr d5, dry.small (ownF_c0 owy)⟩ ((Gd.of k3).gr k4) d6
    have g58 := ((g5.trans g6).gr k3).gr k4
    have p2 := ownS_gd o2 g58 d4
    have p2' := ownS_gd o2' g58 d4
    have p1 := ownS_gd (ownS_gd o1 g4 d3) g58 d4
    have p1' := ownS_gd (ownS_gd o1' g4 d3) g58 d4
    have hw8 := g58.lst nD (g4.lst nD hw3)
    have hl8 := g58.lst nl2 hl2
    have hl3 := k4.lst c3
    have gd8 := (gd3.trans g4).trans g58
    have tb8 := gd8.tab tb
    clear o1 o1' o2 o2' g58 hw3 hl2 k3 k4 c3 n3 ntp g4 g5 g6 owx owy drx dry d3 d4 d5 d6 gd3 tb3
    have key : ∀ i, i < 3 → ∃ (lx : Addr) (u u' : V), [V.ref D, .ref l2, .ref l3][i]? = some (.ref lx) ∧ H8 lx = some (.lst [u, u']) ∧ lx ≠ d ∧ OwnS d H8 u ∧ OwnS d H8 u' := fun i hi => by
      rcases (show i = 0 ∨ i = 1 ∨ i = 2 by omega) with rfl | rfl | rfl
      · exact ⟨D, v, v', rfl, hw8, nD, p1, p1'⟩
      · exact ⟨l2, w, w', rfl, hl8, nl2, p2, p2'⟩
      · exact ⟨l3, x, y, rfl, hl3, nl3, o3, o3'⟩
    refine ⟨tp, rfl, ⟨_, .of c4⟩, ?_⟩
    refine for_any (n := 3) (fun m σ H' => Gd K d H8 H' ∧ Dr H' d (200 + 20 * m) ∧ ∃ j5, σ = [some (.ref a), some (.int (0 + (i : Int))), some (.ref d), some (.ref tf), some (.ref D), j5, j6, j7, j8, j9, none])
      ⟨Gd.refl _, d8.mono (by omega), _, rfl⟩ (fun m σ H hm h => by
        obtain ⟨lx, u, u', e, _⟩ := key m hm
        exact ⟨_, _, .of (h.1.tup d8 c4), e⟩) (fun σ H h => ⟨_, .of (h.1.tup d8 c4), Nat.le_refl _⟩) (fun m z σ H9 H10 hm h hy => ?_) (fun σ H9 h => ?_)
    · obtain ⟨g9, d9, j5', rfl⟩ := h
      obtain ⟨rfl, hz⟩ := hy
      obtain ⟨lx, u, u', e, hlx, nlx, q1, q2⟩ := key m hm
      obtain rfl : z = .ref lx := Option.some.inj ((hz _ (.of (g9.tup d8 c4))).symm.trans e)
      have hlx9 := g9.lst nlx hlx
      refine ⟨_, rfl, _, rfl, lx, _, _, _, rfl, rfl, .of hlx9, rfl, _, rfl, lx, _, _, _, rfl, rfl, .of hlx9, rfl, d, u, u', _, rfl, g9.tab tb8, d9, by omega, ownS_gd q1 g9 d8, ownS_gd q2 g9 d8, fun H11 g11 d11 => ?_⟩
      exact ⟨_, rfl, ifF ⟨g9.trans g11, d11.mono (by omega), _, rfl⟩⟩
    · obtain ⟨g9, d9, j5', rfl⟩ := h
      have gd9 := gd8.trans g9
      clear key p1 p1' p2 p2' o3 o3' hw8 hl8 hl3 c4 d8 gd8 tb8 g9
      -- what is refused
      refine ⟨_, rfl, d, _, rfl, d9, by omega, fun odd Ha ga da hodd => ?_⟩
      refine ⟨by show 0 ≤ sizeLine; decide, fun la na => ?_⟩
      have k1 : Gr K Ha (upd Ha la (.lst [])) := Ge.new na
      have c1 : upd Ha la (.lst []) la = some (.lst (([] : List Int).map V.int)) := upd_same
      generalize upd Ha la (.lst []) = Hb at k1 c1 ⊢
      refine ⟨by show 1 ≤ sizeLine; decide, fun lb nb => ?_⟩
      have k2 : Gr K Hb (upd Hb lb (.lst [.int 0])) := Ge.new nb
      have c2 : upd Hb lb (.lst [.int 0]) lb = some (.lst (([0] : List Int).map V.int)) := upd_same
      generalize upd Hb lb (.lst [.int 0]) = Hc at k2 c2 ⊢
      refine fun good dx nx nd0 ne0 => mkRow2 (.inl (k2.lst c1)) (.inl c2) (by decide) (by decide) (by decide) nx nd0 ne0 fun Hd g10 rg => ⟨rfl, ?_⟩
      refine ⟨by show 2 ≤ sizeLine; decide, fun tt ntt => ?_⟩
      have k5 : Gr K Hd (upd Hd tt (.tup [odd, .ref good])) := Ge.new ntt
      have c5 : upd Hd tt (.tup [odd, .ref good]) tt = some (.tup [odd, .ref good]) := upd_same
      generalize upd Hd tt (.tup [odd, .ref good]) = He' at k5 c5 ⊢
      refine ⟨tt, _, rfl, .of c5, rfl, _, _, rfl, _, _, rfl, rfl, ?_⟩
      have gE : Gr K Ha He' := ((k1.trans k2).trans g10).trans k5
      have gdE := (gd9.trans ga).gr gE
      have oE := hodd.gd (d := d) (n := 0) gE
      have rE := k5.row rg
      have tE := gdE.tab tb
      clear k1 k2 c1 c2 na nb g10 k5 c5 ntt gE hodd rg nx nd0 ne0
      -- gap_up(odd, None)
      refine ⟨tE, fun Hf eN Tf => ?_⟩
      have gf : Gr K He' Hf := ⟨eN, fun _ => Tf⟩
      try unfold refTT
      refine ⟨_, rfl, odd, .non, rfl, .inl ⟨(oE.gd (d := d) (n := 0) gf).notRow T, fun Hg dd gg ee => ⟨rfl, dd, _, rfl, ee, fun l1 nl1 => ?_⟩⟩⟩
      have g1 : Gr K He' (upd Hg l1 (.lst [odd])) := (gf.trans gg).trans (Ge.new nl1)
      have c1 : upd Hg l1 (.lst [odd]) l1 = some (.lst [odd]) := upd_same
      generalize upd Hg l1 (.lst [odd]) = Hh at g1 c1 ⊢
      clear gf gg eN Tf nl1 ee
      -- gap_up(good, odd)
      refine ⟨_, rfl, g1.tab tE, fun Hf eN Tf => ?_⟩
      have gf : Gr K He' Hf := g1.trans ⟨eN, fun _ => Tf⟩
      try unfold refTT
      refine ⟨_, rfl, _, rfl, .ref good, odd, rfl, .inr ⟨⟨good, _, rfl, gf.row rE⟩, (oE.gd (d := d) (n := 0) gf).notRow T, fun Hg dd gg ee => ⟨rfl, dd, _, rfl, ee, fun l2 nl2 => ?_⟩⟩⟩
      have g2 : Gr K He' (upd Hg l2 (.lst [odd])) := (gf.trans gg).trans (Ge.new nl2)
      have c2 : upd Hg l2 (.lst [odd]) l2 = some (.lst [odd]) := upd_same
      have c1 := (Ge.new (T := tbs K) (o := .lst [odd]) nl2).lst (gg.lst ((⟨eN, fun _ => Tf⟩ : Gr K Hh Hf).lst c1))
      generalize upd Hg l2 (.lst [odd]) = Hi at g2 c2 c1 ⊢
      clear gf gg eN Tf nl2 ee g1
      refine ⟨l1, l2, _, _, rfl, rfl, c1, c2, by show 2 ≤ sizeLine; decide, fun l3 n3 => ?_⟩
      have g3 : Gr K He' (upd Hi l3 (.lst ([odd] ++ [odd]))) := g2.trans (Ge.new n3)
      have c3 : upd Hi l3 (.lst ([odd] ++ [odd])) l3 = some (.lst [odd, odd]) := upd_same
      generalize upd Hi l3 (.lst ([odd] ++ [odd])) = Hj at g3 c3 ⊢
      clear g2 c1 c2 n3
      -- gap_across(odd, None)
      refine ⟨_, rfl, g3.tab tE, fun Hf eN Tf => ?_⟩
      have gf : Gr K He' Hf := g3.trans ⟨eN, fun _ => Tf⟩
      try unfold refTT
      refine ⟨_, rfl, odd, .non, rfl, .inl ⟨.inl ((oE.gd (d := d) (n := 0) gf).notRow T), fun Hg dd gg ee => ⟨rfl, dd, _, rfl, ee, fun l2 nl2 => ?_⟩⟩⟩
      have g2 : Gr K He' (upd Hg l2 (.lst [odd])) := (gf.trans gg).trans (Ge.new nl2)
      have c2 : upd Hg l2 (.lst [odd]) l2 = some (.lst [odd]) := upd_same
      have c1 := (Ge.new (T := tbs K) (o := .lst [odd]) nl2).lst (gg.lst ((⟨eN, fun _ => Tf⟩ : Gr K Hj Hf).lst c3))
      generalize upd Hg l2 (.lst [odd]) = Hi at g2 c2 c1 ⊢
      clear gf gg eN Tf nl2 ee g3 c3
      refine ⟨l3, l2, _, _, rfl, rfl, c1, c2, by show 3 ≤ sizeLine; decide, fun l4 n4 => ?_⟩
      have g3 : Gr K He' (upd Hi l4 (.lst ([odd, odd] ++ [odd]))) := g2.trans (Ge.new n4)
      have c3 : upd Hi l4 (.lst ([odd, odd] ++ [odd])) l4 = some (.lst [odd, odd, odd]) := upd_same
      generalize upd Hi l4 (.lst ([odd, odd] ++ [odd])) = Hj at g3 c3 ⊢
      clear g2 c1 c2 n4
      -- gap_across(good, odd)
      refine ⟨_, rfl, g3.tab tE, fun Hf eN Tf => ?_⟩
      have gf : Gr K He' Hf := g3.trans ⟨eN, fun _ => Tf⟩
      try unfold refTT
      refine ⟨_, rfl, _, rfl, .ref good, odd, rfl, .inr ⟨⟨good, _, rfl, gf.row rE, rise1_rising⟩, .inl ((oE.gd (d := d) (n := 0) gf).notRow T), fun Hg dd gg ee => ⟨rfl, dd, _, rfl, ee, fun l2 nl2 => ?_⟩⟩⟩
      have g2 : Gr K He' (upd Hg l2 (.lst [odd])) := (gf.trans gg).trans (Ge.new nl2)
      have c2 : upd Hg l2 (.lst [odd]) l2 = some (.lst [odd]) := upd_same
      have c1 := (Ge.new (T := tbs K) (o := .lst [odd]) nl2).lst (gg.lst ((⟨eN, fun _ => Tf⟩ : Gr K Hj Hf).lst c3))
      generalize upd Hg l2 (.lst [odd]) = Hi at g2 c2 c1 ⊢
      clear gf gg eN Tf nl2 ee g3 c3
      refine ⟨l4, l2, _, _, rfl, rfl, c1, c2, by show 4 ≤ sizeLine; decide, fun l5 n5 => ?_⟩
      have g3 : Gr K He' (upd Hi l5 (.lst ([odd, odd, odd] ++ [odd]))) := g2.trans (Ge.new n5)
      have c3 : upd Hi l5 (.lst ([odd, odd, odd] ++ [odd])) l5 = some (.lst [odd, odd, odd, odd]) := upd_same
      generalize upd Hi l5 (.lst ([odd, odd, odd] ++ [odd])) = Hj at g3 c3 ⊢
      clear g2 c1 c2 n5
      -- same(found, [odd] * 4)
      refine ⟨_, rfl, _, rfl, by show 1 ≤ sizeLine; decide, fun l6 n6 => ?_⟩
      have k6 : Gr K Hj (upd Hj l6 (.lst [odd])) := Ge.new n6
      have c6 : upd Hj l6 (.lst [odd]) l6 = some (.lst [odd]) := upd_same
      generalize upd Hj l6 (.lst [odd]) = Hk at k6 c6 ⊢
      refine ⟨l6, 4, _, rfl, rfl, c6, by decide, by decide, by show 4 ≤ sizeLine; decide, fun l7 n7 => ?_⟩
      have k7 : Gr K Hk (upd Hk l7 (.lst (List.replicate (4 : Int).toNat [odd]).flatten)) := Ge.new n7
      have c7 : upd Hk l7 (.lst (List.replicate (4 : Int).toNat [odd]).flatten) l7 = some (.lst [odd, odd, odd, odd]) := upd_same
      generalize upd Hk l7 (.lst (List.replicate (4 : Int).toNat [odd]).flatten) = Hl at k7 c7 ⊢
      have g4 := g3.trans (k6.trans k7)
      have oL := oE.gd (d := d) (n := 0) g4
      refine ⟨.ref l5, .ref l7, rfl, .inr (.inl ⟨l5, l7, _, _, rfl, rfl, .inl ⟨(k6.trans k7).lst c3, c7⟩, rfl, by simp, fun i u v hu hv => ?_⟩), fun Hm gm => ?_⟩
      · have hu' := List.mem_of_getElem? hu
        have hv' := List.mem_of_getElem? hv
        obtain rfl : u = odd := by simpa using hu'
        obtain rfl : v = u := by simpa using hv'
        exact oL.same T
      refine ⟨_, rfl, ifF ?_⟩
      have g5 := g4.trans gm
      clear g4 g3 k6 k7 c6 c7 c3 oL n6 n7 gm
      -- the row that falls
      refine ⟨by show 0 ≤ sizeLine; decide, fun la na => ?_⟩
      have k1 : Gr K Hm (upd Hm la (.lst [])) := Ge.new na
      have c1 : upd Hm la (.lst []) la = some (.lst (([] : List Int).map V.int)) := upd_same
      generalize upd Hm la (.lst []) = Hb at k1 c1 ⊢
      refine ⟨by show 1 ≤ sizeLine; decide, fun lb nb => ?_⟩
      have k2 : Gr K Hb (upd Hb lb (.lst [.int 2])) := Ge.new nb
      have c2 : upd Hb lb (.lst [.int 2]) lb = some (.lst (([2] : List Int).map V.int)) := upd_same
      generalize upd Hb lb (.lst [.int 2]) = Hc at k2 c2 ⊢
      refine ⟨_, _, rfl, rfl, ?_⟩
      refine fun fall dx nx nd0 ne0 => mkRow2 (.inl (k2.lst c1)) (.inl c2) (by decide) (by decide) (by decide) nx nd0 ne0 fun Hd g10 rg => ⟨rfl, ?_⟩
      have g6 := g5.trans ((k1.trans k2).trans g10)
      refine ⟨g6.tab tE, fun Hf eN Tf => ?_⟩
      have gd6 : Gr K Hd Hf := ⟨eN, fun _ => Tf⟩
      have gf : Gr K He' Hf := g6.trans gd6
      try unfold refTT
      refine ⟨_, rfl, _, rfl, .ref fall, odd, rfl, .inl ⟨.inr ⟨fall, _, rfl, gd6.row rg, fall1_not⟩, fun Hg dd gg ee => ⟨rfl, dd, _, rfl, ee, fun l2 nl2 => ?_⟩⟩⟩
      have g2 : Gr K He' (upd Hg l2 (.lst [.ref fall])) := (gf.trans gg).trans (Ge.new nl2)
      have c2 : upd Hg l2 (.lst [.ref fall]) l2 = some (.lst [.ref fall]) := upd_same
      have r2 := (Ge.new (T := tbs K) (o := .lst [.ref fall]) nl2).row (gg.row (gd6.row rg))
      generalize upd Hg l2 (.lst [.ref fall]) = Hi at g2 c2 r2 ⊢
      refine ⟨_, rfl, by show 1 ≤ sizeLine; decide, fun l3 n3 => ?_⟩
      have k3 : Gr K Hi (upd Hi l3 (.lst [.ref fall])) := Ge.new n3
      have c3 : upd Hi l3 (.lst [.ref fall]) l3 = some (.lst [.ref fall]) := upd_same
      generalize upd Hi l3 (.lst [.ref fall]) = Hj at k3 c3 ⊢
      refine ⟨.ref l2, .ref l3, rfl, .inr (.inl ⟨l2, l3, _, _, rfl, rfl, .inl ⟨k3.lst c2, c3⟩, rfl, by simp, fun i u v hu hv => ?_⟩), fun Hm gm => ?_⟩
      · have hu' := List.mem_of_getElem? hu
        have hv' := List.mem_of_getElem? hv
        obtain rfl : u = .ref fall := by simpa using hu'
        obtain rfl : v = .ref fall := by simpa using hv'
        exact .inl (.row ⟨_, k3.row r2, k3.row r2⟩)
      refine ⟨_, rfl, ifF ?_⟩
      have gdZ := gdE.gr ((g2.trans k3).trans gm)
      exact ⟨gdZ.tab tb, sqL_gd gdZ nd sq, _, _, _, _, _, _, _, _, _, rfl⟩
end
end K17
set_option Elab.async false
set_option linter.all false
set_option maxRecDepth 100000
set_option maxHeartbeats 4000000
/-! from the head's facts to what the walk leans on; the law's promise -/
namespace K17
open PySem PySem.Spec PyProof.Rows L2 LamX
def isGlo (y : Str) : He.Fa → Bool
  | .glo x => decide (x = y)
  | _ => false
def isFree (y : Str) : He.Fa → Bool
  | .free x => decide (x = y)
  | _ => false
def isMeth (m : Str) : He.Fa → Bool
  | .meth c x => decide (c = "Row") && decide (x = m)
  | _ => false
theorem glo_in {y : Str} (h : y ∈ gN ++ clN) : He.Fa.glo y ∈ fa := by
  have a : (gN ++ clN).all (fun y => fa.any (isGlo y)) = true := by decide +kernel
  obtain ⟨f, hf, e⟩ := List.any_eq_true.mp (List.all_eq_true.mp a y h)
  cases f with
  | glo x => exact of_decide_eq_true (show decide (x = y) = true from e) ▸ hf
  | _ => cases e
theorem free_in {y : Str} (h : y ∈ frN) : He.Fa.free y ∈ fa := by
  have a : frN.all (fun y => fa.any (isFree y)) = true := by decide +kernel
  obtain ⟨f, hf, e⟩ := List.any_eq_true.mp (List.all_eq_true.mp a y h)
  cases f with
  | free x => exact of_decide_eq_true (show decide (x = y) = true from e) ▸ hf
  | _ => cases e
theorem meth_in {y : Str} (h : y ∈ (["value", "at", "upto", "head", "cycle", "gain", "rate", "__eq__"] : List Str)) : He.Fa.meth "Row" y ∈ fa := by
  have a : (["value", "at", "upto", "head", "cycle", "gain", "rate", "__eq__"] : List Str).all (fun y => fa.any (isMeth y)) = true := by decide +kernel
  obtain ⟨f, hf, e⟩ := List.any_eq_true.mp (List.all_eq_true.mp a y h)
  cases f with
  | meth c x =>
    obtain ⟨e1, e2⟩ := He.ba (show (decide (c = "Row") && decide (x = y)) = true from e)
    obtain rfl := of_decide_eq_true e1
    obtain rfl := of_decide_eq_true e2
    exact hf
  | _ => cases e
theorem noDfl {d : He.DefD} (h : d ∈ fn) : d.dfl = [] ∧ d.kwd = [] := by
  have a : fn.all (fun d => d.dfl.isEmpty && d.kwd.isEmpty) = true := by decide +kernel
  obtain ⟨e1, e2⟩ := He.ba (List.all_eq_true.mp a d h)
  exact ⟨List.isEmpty_iff.mp e1, List.isEmpty_iff.mp e2⟩
section
variable {w : World} {h : Heap} {K : PySem.W.Frag} {mg : Str → Option Value}
theorem txt_of (X : K.In h) (G : h.Ns mainGlobals mg) (c : Says w h K) : Txt K mg := by
  have D := c.1.t.d
  have m := c.1.more
  obtain ⟨m, _⟩ := He.ba (show (exRow K && exBad K) = true from m)
  unfold exRow at m
  obtain ⟨m1, m⟩ := He.ba m
  obtain ⟨m2, m⟩ := He.ba m
  obtain ⟨m3, m⟩ := He.ba m
  obtain ⟨m4, m⟩ := He.ba m
  obtain ⟨m5, m⟩ := He.ba m
  obtain ⟨m6, m⟩ := He.ba m
  obtain ⟨m7, m⟩ := He.ba m
  obtain ⟨m8, m⟩ := He.ba m
  obtain ⟨m9, m⟩ := He.ba m
  obtain ⟨m10, m⟩ := He.ba m
  obtain ⟨m11, m⟩ := He.ba m
  exact {
    g := fun x hx => He.glo_ok X G (D.facts (glo_in hx))
    f := fun x hx => He.free_ok X G (D.facts (free_in hx))
    d := fun i d hd => by
      obtain ⟨e1, e2⟩ := noDfl (List.mem_of_getElem? hd)
      have F := D.def_ i hd
      unfold He.DefD.dvs He.DefD.kws at F
      rw [e1, e2] at F
      exact F
    cls := He.cls_ok (D.facts (f := .cls "Row") (List.mem_append_right _ (List.mem_cons_self)))
    mkr := He.mkr_ok (D.facts (f := .mkr "Row") (List.mem_append_right _ (by unfold faD; simp)))
    met := fun y hy => He.meth_ok (D.facts (meth_in hy))
    at1 := He.noat_ok (D.facts (f := .noat "Row" "early") (List.mem_append_right _ (by unfold faD; simp)))
    at2 := He.noat_ok (D.facts (f := .noat "Row" "round") (List.mem_append_right _ (by unfold faD; simp)))
    at3 := He.noat_ok (D.facts (f := .noat "Row" "more") (List.mem_append_right _ (by unfold faD; simp)))
    gcd := PySem.W.mg_of X G (He.eqO_ok m1)
    isT := fun t ht => of_decide_eq_true (List.all_eq_true.mp m2 t (show t ∈ tyH from ht))
    isR := fun t ht => of_decide_eq_true (List.all_eq_true.mp m3 t (show t ∈ tyH from ht))
    rr := of_decide_eq_true m4
    c1 := He.eqO_ok m5
    c2 := He.eqO_ok m6
    c3 := of_decide_eq_true m7
    c4 := of_decide_eq_true m8
    tb12 := of_decide_eq_true m9
    tb13 := of_decide_eq_true m10
    tb23 := of_decide_eq_true m11 }
theorem txtL_of (X : K.In h) (G : h.Ns mainGlobals mg) (c : Says w h K) : TxtL Pg K mg := by
  have T := txt_of X G c
  have D := c.1.t.d
  obtain ⟨m, b⟩ := He.ba (show (exRow K && exBad K) = true from c.1.more)
  unfold exRow at m
  obtain ⟨_, m⟩ := He.ba m
  obtain ⟨_, m⟩ := He.ba m
  obtain ⟨_, m⟩ := He.ba m
  obtain ⟨_, m⟩ := He.ba m
  obtain ⟨_, m⟩ := He.ba m
  obtain ⟨_, m⟩ := He.ba m
  obtain ⟨_, m⟩ := He.ba m
  obtain ⟨_, m⟩ := He.ba m
  obtain ⟨_, m⟩ := He.ba m
  obtain ⟨_, m⟩ := He.ba m
  obtain ⟨_, m⟩ := He.ba m
  obtain ⟨m12, m13⟩ := He.ba m
  unfold exBad at b
  obtain ⟨b1, b⟩ := He.ba b
  obtain ⟨b2, b⟩ := He.ba b
  obtain ⟨b3, b⟩ := He.ba b
  obtain ⟨b4, b⟩ := He.ba b
  obtain ⟨b5, b⟩ := He.ba b
  obtain ⟨b6, b⟩ := He.ba b
  obtain ⟨b7, b⟩ := He.ba b
  obtain ⟨b8, b⟩ := He.ba b
  obtain ⟨b9, b⟩ := He.ba b
  obtain ⟨b10, b⟩ := He.ba b
  obtain ⟨b11, b⟩ := He.ba b
  obtain ⟨b12, b⟩ := He.ba b
  obtain ⟨b13, b⟩ := He.ba b
  obtain ⟨b14, b⟩ := He.ba b
  obtain ⟨b15, b16⟩ := He.ba b
  refine ⟨⟨T, ?_, He.eqO_ok m12⟩, ?_⟩
  · exact {
      gC := T.g "BadRow" (by decide +kernel)
      cls := PySem.BadX.clsB_ok b1
      sa := He.eqO_ok b2
      ga := He.eqO_ok b3
      gg := He.eqO_ok b4
      noN := He.eqO_ok b5
      iC := He.eqO_ok b6
      tC := of_decide_eq_true b7
      kC := b8
      exC := of_decide_eq_true b9
      veC := of_decide_eq_true b10
      mC := of_decide_eq_true b11
      tyC := of_decide_eq_true b12
      hdC := b13
      te := of_decide_eq_true b14
      opq := He.eqO_ok b15
      sup := T.f "super" (by decide +kernel)
      htop := by decide +kernel
      fn := PySem.BadX.initB_ok c.2 b16 }
  · unfold drB at m13
    cases e : K.lookup (He.ga K "_law_draw") with
    | none => rw [e] at m13; cases m13
    | some o =>
      refine ⟨o, rfl, ?_⟩
      obtain ⟨oc, od, dt, sl⟩ := o
      rw [e] at m13
      cases oc with
      | type n =>
        try dsimp only at m13
        split at m13
        · rename_i hq
          cases hq; rfl
        · cases m13
      | _ => cases m13
theorem law_at {f : Addr} (X : K.In h) (G : h.Ns mainGlobals mg) (hfa : mg ("law" : Str) = some (.ref f)) (c : Says w h K) :
    LamX.LawAtS (PySem.Challenge.rw_anyload_k17_whole_turned_pairs_and_gaps) w K CX0 40 63 "_law_script" mg f h := by
  have T := txtL_of X G c
  have hl := T.b.t.g "law" (by decide +kernel)
  obtain rfl : f = He.ga K "law" := by
    rw [hl] at hfa
    cases hfa; rfl
  obtain ⟨fd, F⟩ := T.b.t.d 78 _ rfl
  refine ⟨fd, tf.map (He.cT K), spLaw K, fun p hp => ?_, fun p hp => ?_, fun p hp => ?_, fun s u => ?_, fun H a ns hn _ ht hs => ?_, fun base KB GB htb => ?_⟩
  · obtain ⟨q, hq, rfl⟩ := List.mem_map.mp hp
    exact c.1.empty q hq
  · obtain ⟨q, hq, rfl⟩ := List.mem_map.mp hp
    exact c.1.out q hq
  · obtain ⟨q, hq, rfl⟩ := List.mem_map.mp hp
    exact PySem.W.codeHd_of_K X (c.1.hd q hq)
  · exact FunD.bindsA (ps := ["_law_script"]) F (fun _ _ _ _ _ _ us hl => match us, hl with | [_], _ => rfl) s [u] rfl
  · refine ⟨a, ns, rfl, fun p hp => ?_, hs, hn, fun _ => rfl⟩
    rcases List.mem_cons.mp hp with rfl | hp
    · exact .nil (ht (He.cT K ("least_of_two", none)) (List.mem_map.mpr ⟨_, List.mem_cons_self, rfl⟩))
    · rcases List.mem_cons.mp hp with rfl | hp
      · exact .nil (ht (He.cT K ("_law_gaps_right", none)) (List.mem_map.mpr ⟨_, List.mem_cons_of_mem _ List.mem_cons_self, rfl⟩))
      · rcases List.mem_cons.mp hp with rfl | hp
        · exact .nil (ht (He.cT K ("law", none)) (List.mem_map.mpr ⟨_, List.mem_cons_of_mem _ (List.mem_cons_of_mem _ List.mem_cons_self), rfl⟩))
        · cases hp
  · have TB := htb (He.cT K ("least_of_two", none)) (List.mem_map.mpr ⟨_, List.mem_cons_self, rfl⟩)
    have TB1 := htb (He.cT K ("_law_gaps_right", none)) (List.mem_map.mpr ⟨_, List.mem_cons_of_mem _ List.mem_cons_self, rfl⟩)
    have TB2 := htb (He.cT K ("law", none)) (List.mem_map.mpr ⟨_, List.mem_cons_of_mem _ (List.mem_cons_of_mem _ List.mem_cons_self), rfl⟩)
    exact (law_fn (P := (PySem.Challenge.rw_anyload_k17_whole_turned_pairs_and_gaps).prog) (w := w) T TB TB1 TB2 F).mono (by decide)
end
end K17
set_option Elab.async false
set_option linter.all false
set_option maxRecDepth 100000
set_option maxHeartbeats 0
theorem PySem.Challenge.cw_anyload_k17_whole_turned_pairs_and_gaps_holds : PySem.Challenge.rw_anyload_k17_whole_turned_pairs_and_gaps.Holds := by
  exact K17.end_of fun X G e c => K17.law_at X G e c
