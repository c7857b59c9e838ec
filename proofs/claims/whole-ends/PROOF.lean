import PyProof.Rows.All
import Wide.All
import OpenK.AllK
import Wide.FinOn
import KE.KStateDown
import HandS.Base
import HandS.Call
import HandS.Ends
import HandS.More
import HandS.Words
import HandS.WordsExc
import HandS.Defaults
import HandS.Head0
import HandS.Head1
import HandS.Head2
import HandS.HeadEnd
import HandS.HeadHook1
import HandS.HeadHook2
import HandS.HeadHook3
import HandS.HeadHook4
import HandS.ForMost
import HandS.Conv
import HandS.Style
import HandS.RevRange
import HandS.SortInts
import HandS.Wide
import HandS.WideBits
import HandS.IsInst
import HandS.Flow
import HandS.Evl
import HandS.Codes
import HandS.TupLe
import PySem.Challenge.RW_seamlayers_k34_whole_ends_of_classes
section
set_option Elab.async false
set_option linter.all false
set_option maxRecDepth 100000
set_option maxHeartbeats 0
namespace SLH
open PySem PySem.Spec PyProof.Rows L2
def top (i : Nat) : Stmt := PySem.Challenge.pw_seamlayers_k34_whole_ends_of_classes.main.body.getD i (.Pass ⟨0, 0, 0, 0⟩)
abbrev st0 : Stmt := top 9
abbrev st1 : Stmt := top 10
abbrev st2 : Stmt := top 11
abbrev st3 : Stmt := inClass (top 12) 0
abbrev st4 : Stmt := inClass (top 12) 1
abbrev st5 : Stmt := inClass (top 12) 2
abbrev st6 : Stmt := inClass (top 12) 3
abbrev st7 : Stmt := inClass (top 12) 4
abbrev st8 : Stmt := top 13
abbrev st9 : Stmt := top 14
abbrev st10 : Stmt := top 15
abbrev st11 : Stmt := top 16
abbrev st12 : Stmt := top 17
abbrev st13 : Stmt := top 18
abbrev st14 : Stmt := top 19
abbrev st15 : Stmt := top 20
abbrev st16 : Stmt := top 21
abbrev st17 : Stmt := top 22
abbrev st18 : Stmt := top 23
abbrev st19 : Stmt := top 24
abbrev st20 : Stmt := top 25
abbrev st21 : Stmt := top 27
abbrev st22 : Stmt := top 29
abbrev st23 : Stmt := top 30
abbrev st24 : Stmt := top 31
abbrev st25 : Stmt := top 34
abbrev st26 : Stmt := top 35
abbrev st27 : Stmt := top 36
abbrev st28 : Stmt := top 37
abbrev st29 : Stmt := top 38
abbrev st30 : Stmt := top 39
abbrev st31 : Stmt := top 40
abbrev st32 : Stmt := top 41
abbrev st33 : Stmt := top 42
abbrev st34 : Stmt := top 43
abbrev st35 : Stmt := top 45
abbrev st36 : Stmt := top 46
abbrev st37 : Stmt := top 47
abbrev st38 : Stmt := top 48
abbrev st39 : Stmt := top 49
abbrev st40 : Stmt := top 50
abbrev st41 : Stmt := top 51
abbrev st42 : Stmt := top 52
abbrev st43 : Stmt := top 53
abbrev st44 : Stmt := top 55
abbrev st45 : Stmt := top 56
abbrev st46 : Stmt := top 57
abbrev st47 : Stmt := top 58
abbrev st48 : Stmt := top 59
abbrev st49 : Stmt := top 60
abbrev st50 : Stmt := top 61
abbrev st51 : Stmt := top 63
abbrev st52 : Stmt := top 64
abbrev st53 : Stmt := top 65
abbrev st54 : Stmt := top 66
abbrev st55 : Stmt := top 67
abbrev st56 : Stmt := top 68
abbrev st57 : Stmt := top 69
abbrev st58 : Stmt := top 70
abbrev st59 : Stmt := top 71
abbrev st60 : Stmt := top 72
abbrev st61 : Stmt := top 73
abbrev st62 : Stmt := top 74
abbrev st63 : Stmt := top 75
abbrev st64 : Stmt := top 76
abbrev st65 : Stmt := top 77
abbrev st66 : Stmt := top 78
abbrev st67 : Stmt := top 79
abbrev st68 : Stmt := top 80
abbrev st69 : Stmt := top 81
abbrev st70 : Stmt := top 82
abbrev st71 : Stmt := top 83
abbrev st72 : Stmt := top 84
abbrev st73 : Stmt := top 85
abbrev st74 : Stmt := top 86
abbrev st75 : Stmt := top 87
def d0 : He.DefD := ⟨("is_whole", none), "is_whole", "is_whole", defArgs st0, defBody st0, defScope st0, [], []⟩
def d1 : He.DefD := ⟨("is_between", none), "is_between", "is_between", defArgs st1, defBody st1, defScope st1, [], []⟩
def d2 : He.DefD := ⟨("check_number", none), "check_number", "check_number", defArgs st2, defBody st2, defScope st2, [], []⟩
def d3 : He.DefD := ⟨("Kind", some "__init__"), "__init__", "Kind.__init__", defArgs st3, defBody st3, defScope st3, [], []⟩
def d4 : He.DefD := ⟨("Kind", some "name"), "name", "Kind.name", defArgs st4, defBody st4, defScope st4, [], []⟩
def d5 : He.DefD := ⟨("Kind", some "size"), "size", "Kind.size", defArgs st5, defBody st5, defScope st5, [], []⟩
def d6 : He.DefD := ⟨("Kind", some "steps"), "steps", "Kind.steps", defArgs st6, defBody st6, defScope st6, [], []⟩
def d7 : He.DefD := ⟨("Kind", some "start"), "start", "Kind.start", defArgs st7, defBody st7, defScope st7, [], []⟩
def d8 : He.DefD := ⟨("check_kind", none), "check_kind", "check_kind", defArgs st8, defBody st8, defScope st8, [], []⟩
def d9 : He.DefD := ⟨("is_crossed", none), "is_crossed", "is_crossed", defArgs st9, defBody st9, defScope st9, [], []⟩
def d10 : He.DefD := ⟨("by_step", none), "by_step", "by_step", defArgs st10, defBody st10, defScope st10, [], []⟩
def d11 : He.DefD := ⟨("item_at", none), "item_at", "item_at", defArgs st11, defBody st11, defScope st11, [], []⟩
def d12 : He.DefD := ⟨("product_of", none), "product_of", "product_of", defArgs st12, defBody st12, defScope st12, [], []⟩
def d13 : He.DefD := ⟨("opposite_of", none), "opposite_of", "opposite_of", defArgs st13, defBody st13, defScope st13, [], []⟩
def d14 : He.DefD := ⟨("ahead_of", none), "ahead_of", "ahead_of", defArgs st14, defBody st14, defScope st14, [], []⟩
def d15 : He.DefD := ⟨("falls_of", none), "falls_of", "falls_of", defArgs st15, defBody st15, defScope st15, [], []⟩
def d16 : He.DefD := ⟨("heads_of", none), "heads_of", "heads_of", defArgs st16, defBody st16, defScope st16, [], []⟩
def d17 : He.DefD := ⟨("crossings_of", none), "crossings_of", "crossings_of", defArgs st17, defBody st17, defScope st17, [], []⟩
def d18 : He.DefD := ⟨("crossings_between", none), "crossings_between", "crossings_between", defArgs st18, defBody st18, defScope st18, [], []⟩
def d19 : He.DefD := ⟨("is_order_list", none), "is_order_list", "is_order_list", defArgs st19, defBody st19, defScope st19, [], []⟩
def d20 : He.DefD := ⟨("is_let_order", none), "is_let_order", "is_let_order", defArgs st20, defBody st20, defScope st20, [], []⟩
def d21 : He.DefD := ⟨("least_row_of", none), "least_row_of", "least_row_of", defArgs st21, defBody st21, defScope st21, [], []⟩
def d22 : He.DefD := ⟨("gain", none), "gain", "gain", defArgs st22, defBody st22, defScope st22, [], []⟩
def d23 : He.DefD := ⟨("greedy_of", none), "greedy_of", "greedy_of", defArgs st23, defBody st23, defScope st23, [], []⟩
def d24 : He.DefD := ⟨("gained_all", none), "gained_all", "gained_all", defArgs st24, defBody st24, defScope st24, [], []⟩
def d25 : He.DefD := ⟨("wholes_of", none), "wholes_of", "wholes_of", defArgs st25, defBody st25, defScope st25, [], []⟩
def d26 : He.DefD := ⟨("whole_of", none), "whole_of", "whole_of", defArgs st26, defBody st26, defScope st26, [], []⟩
def d27 : He.DefD := ⟨("is_let_standing", none), "is_let_standing", "is_let_standing", defArgs st27, defBody st27, defScope st27, [], []⟩
def d28 : He.DefD := ⟨("check_standing", none), "check_standing", "check_standing", defArgs st28, defBody st28, defScope st28, [], []⟩
def d29 : He.DefD := ⟨("check_two_standings", none), "check_two_standings", "check_two_standings", defArgs st29, defBody st29, defScope st29, [], []⟩
def d30 : He.DefD := ⟨("copied", none), "copied", "copied", defArgs st30, defBody st30, defScope st30, [], []⟩
def d31 : He.DefD := ⟨("turned_of", none), "turned_of", "turned_of", defArgs st31, defBody st31, defScope st31, [], []⟩
def d32 : He.DefD := ⟨("deeds_of", none), "deeds_of", "deeds_of", defArgs st32, defBody st32, defScope st32, [], []⟩
def d33 : He.DefD := ⟨("behind_deed", none), "behind_deed", "behind_deed", defArgs st33, defBody st33, defScope st33, [], []⟩
def d34 : He.DefD := ⟨("turned", none), "turned", "turned", defArgs st34, defBody st34, defScope st34, [], []⟩
def d35 : He.DefD := ⟨("are_joined", none), "are_joined", "are_joined", defArgs st35, defBody st35, defScope st35, [], []⟩
def d36 : He.DefD := ⟨("last_layer", none), "last_layer", "last_layer", defArgs st36, defBody st36, defScope st36, [], []⟩
def d37 : He.DefD := ⟨("deeds_up", none), "deeds_up", "deeds_up", defArgs st37, defBody st37, defScope st37, [], []⟩
def d38 : He.DefD := ⟨("deeds_down", none), "deeds_down", "deeds_down", defArgs st38, defBody st38, defScope st38, [], []⟩
def d39 : He.DefD := ⟨("way_of", none), "way_of", "way_of", defArgs st39, defBody st39, defScope st39, [], []⟩
def d40 : He.DefD := ⟨("joined", none), "joined", "joined", defArgs st40, defBody st40, defScope st40, [], []⟩
def d41 : He.DefD := ⟨("way", none), "way", "way", defArgs st41, defBody st41, defScope st41, [], []⟩
def d42 : He.DefD := ⟨("uppermost", none), "uppermost", "uppermost", defArgs st42, defBody st42, defScope st42, [], []⟩
def d43 : He.DefD := ⟨("lowermost", none), "lowermost", "lowermost", defArgs st43, defBody st43, defScope st43, [], []⟩
def d44 : He.DefD := ⟨("height_of", none), "height_of", "height_of", defArgs st44, defBody st44, defScope st44, [], []⟩
def d45 : He.DefD := ⟨("depth_of", none), "depth_of", "depth_of", defArgs st45, defBody st45, defScope st45, [], []⟩
def d46 : He.DefD := ⟨("leads_up", none), "leads_up", "leads_up", defArgs st46, defBody st46, defScope st46, [], []⟩
def d47 : He.DefD := ⟨("steps_up", none), "steps_up", "steps_up", defArgs st47, defBody st47, defScope st47, [], []⟩
def d48 : He.DefD := ⟨("far_above", none), "far_above", "far_above", defArgs st48, defBody st48, defScope st48, [], []⟩
def d49 : He.DefD := ⟨("far_below", none), "far_below", "far_below", defArgs st49, defBody st49, defScope st49, [], []⟩
def d50 : He.DefD := ⟨("way_up", none), "way_up", "way_up", defArgs st50, defBody st50, defScope st50, [], []⟩
def d51 : He.DefD := ⟨("_law_hash", none), "_law_hash", "_law_hash", defArgs st51, defBody st51, defScope st51, [], []⟩
def d52 : He.DefD := ⟨("_law_random", none), "_law_random", "_law_random", defArgs st52, defBody st52, defScope st52, [], []⟩
def d53 : He.DefD := ⟨("_law_cell", none), "_law_cell", "_law_cell", defArgs st53, defBody st53, defScope st53, [], []⟩
def d54 : He.DefD := ⟨("_law_generator", none), "_law_generator", "_law_generator", defArgs st54, defBody st54, defScope st54, [], []⟩
def d55 : He.DefD := ⟨("_law_kind", none), "_law_kind", "_law_kind", defArgs st55, defBody st55, defScope st55, [], []⟩
def d56 : He.DefD := ⟨("_law_steps", none), "_law_steps", "_law_steps", defArgs st56, defBody st56, defScope st56, [], []⟩
def d57 : He.DefD := ⟨("_law_start", none), "_law_start", "_law_start", defArgs st57, defBody st57, defScope st57, [], []⟩
def d58 : He.DefD := ⟨("_law_fall", none), "_law_fall", "_law_fall", defArgs st58, defBody st58, defScope st58, [], []⟩
def d59 : He.DefD := ⟨("_law_by", none), "_law_by", "_law_by", defArgs st59, defBody st59, defScope st59, [], []⟩
def d60 : He.DefD := ⟨("_law_falls", none), "_law_falls", "_law_falls", defArgs st60, defBody st60, defScope st60, [], []⟩
def d61 : He.DefD := ⟨("_law_row", none), "_law_row", "_law_row", defArgs st61, defBody st61, defScope st61, [], []⟩
def d62 : He.DefD := ⟨("_law_made", none), "_law_made", "_law_made", defArgs st62, defBody st62, defScope st62, [], []⟩
def d63 : He.DefD := ⟨("_law_back", none), "_law_back", "_law_back", defArgs st63, defBody st63, defScope st63, [], []⟩
def d64 : He.DefD := ⟨("_law_ahead", none), "_law_ahead", "_law_ahead", defArgs st64, defBody st64, defScope st64, [], []⟩
def d65 : He.DefD := ⟨("_law_heads", none), "_law_heads", "_law_heads", defArgs st65, defBody st65, defScope st65, [], []⟩
def d66 : He.DefD := ⟨("_law_greedy", none), "_law_greedy", "_law_greedy", defArgs st66, defBody st66, defScope st66, [], []⟩
def d67 : He.DefD := ⟨("_law_wholes", none), "_law_wholes", "_law_wholes", defArgs st67, defBody st67, defScope st67, [], []⟩
def d68 : He.DefD := ⟨("_law_order", none), "_law_order", "_law_order", defArgs st68, defBody st68, defScope st68, [], []⟩
def d69 : He.DefD := ⟨("_law_standing", none), "_law_standing", "_law_standing", defArgs st69, defBody st69, defScope st69, [], []⟩
def d70 : He.DefD := ⟨("_law_deeds", none), "_law_deeds", "_law_deeds", defArgs st70, defBody st70, defScope st70, [], []⟩
def d71 : He.DefD := ⟨("_law_done", none), "_law_done", "_law_done", defArgs st71, defBody st71, defScope st71, [], []⟩
def d72 : He.DefD := ⟨("_law_walked", none), "_law_walked", "_law_walked", defArgs st72, defBody st72, defScope st72, [], []⟩
def d73 : He.DefD := ⟨("_law_each_seam_right", none), "_law_each_seam_right", "_law_each_seam_right", defArgs st73, defBody st73, defScope st73, [], []⟩
def d74 : He.DefD := ⟨("_law_good", none), "_law_good", "_law_good", defArgs st74, defBody st74, defScope st74, [], []⟩
def d75 : He.DefD := ⟨("law", none), "law", "law", defArgs st75, defBody st75, defScope st75, [], []⟩
def fn0 : List He.DefD := [d0, d1, d2, d3, d4, d5, d6, d7, d8, d9, d10, d11, d12, d13, d14, d15, d16, d17, d18, d19, d20, d21, d22, d23, d24, d25, d26, d27, d28, d29]
def fn1 : List He.DefD := [d30, d31, d32, d33, d34, d35, d36, d37, d38, d39, d40, d41, d42, d43, d44, d45, d46, d47, d48, d49, d50, d51, d52, d53, d54, d55, d56, d57, d58, d59]
def fn2 : List He.DefD := [d60, d61, d62, d63, d64, d65, d66, d67, d68, d69, d70, d71, d72, d73, d74, d75]
def fn : List He.DefD := fn0 ++ fn1 ++ fn2
def fa0 : List He.Fa := [.glo "SeamError", .glo "InvalidKind", .glo "InvalidNumber", .glo "InvalidStanding", .glo "Unlike", .glo "BOUNDS", .glo "is_whole", .glo "is_between", .glo "check_number", .glo "Kind", .glo "check_kind", .glo "is_crossed", .glo "by_step", .glo "item_at", .glo "product_of", .glo "opposite_of", .glo "ahead_of", .glo "falls_of", .glo "heads_of", .glo "crossings_of", .glo "crossings_between", .glo "is_order_list", .glo "is_let_order", .glo "least_row_of", .glo "gain", .glo "greedy_of", .glo "gained_all", .glo "wholes_of", .glo "whole_of", .glo "is_let_standing"]
def fa1 : List He.Fa := [.glo "check_standing", .glo "check_two_standings", .glo "copied", .glo "turned_of", .glo "deeds_of", .glo "behind_deed", .glo "turned", .glo "are_joined", .glo "last_layer", .glo "deeds_up", .glo "deeds_down", .glo "way_of", .glo "joined", .glo "way", .glo "uppermost", .glo "lowermost", .glo "height_of", .glo "depth_of", .glo "leads_up", .glo "steps_up", .glo "far_above", .glo "far_below", .glo "way_up", .glo "_law_hash", .glo "_law_random", .glo "_law_cell", .glo "_law_generator", .glo "_law_kind", .glo "_law_steps", .glo "_law_start"]
def fa2 : List He.Fa := [.glo "_law_fall", .glo "_law_by", .glo "_law_falls", .glo "_law_row", .glo "_law_made", .glo "_law_back", .glo "_law_ahead", .glo "_law_heads", .glo "_law_greedy", .glo "_law_wholes", .glo "_law_order", .glo "_law_standing", .glo "_law_deeds", .glo "_law_done", .glo "_law_walked", .glo "_law_each_seam_right", .glo "_law_good", .glo "law", .free "isinstance", .free "int", .free "bool", .free "str", .free "list", .free "len", .free "sorted", .free "sum", .free "abs", .free "range", .free "enumerate", .free "zip"]
def fa3 : List He.Fa := [.free "reversed", .free "max", .free "min", .free "repr", .int "MOST_CROSSINGS" 60, .int "MOST_LAYERS" 8, .cls "Kind", .noat "Kind" "_name", .noat "Kind" "_size", .mkr "Kind", .meth "Kind" "name", .meth "Kind" "size", .meth "Kind" "steps", .meth "Kind" "start"]
def fa : List He.Fa := fa0 ++ fa1 ++ fa2 ++ fa3
def lo0 : List PySem.Str := ["SeamError", "InvalidKind", "InvalidNumber", "InvalidStanding", "Unlike", "BOUNDS", "MOST_CROSSINGS", "is_whole", "is_between", "check_number", "Kind", "check_kind", "is_crossed", "by_step", "item_at", "product_of", "opposite_of", "ahead_of", "falls_of", "heads_of", "crossings_of", "crossings_between", "is_order_list", "is_let_order", "least_row_of", "gain", "greedy_of", "gained_all", "MOST_LAYERS", "wholes_of"]
def lo1 : List PySem.Str := ["whole_of", "is_let_standing", "check_standing", "check_two_standings", "copied", "turned_of", "deeds_of", "behind_deed", "turned", "are_joined", "last_layer", "deeds_up", "deeds_down", "way_of", "joined", "way", "uppermost", "lowermost", "height_of", "depth_of", "leads_up", "steps_up", "far_above", "far_below", "way_up", "_law_hash", "_law_random", "_law_cell", "_law_generator", "_law_kind"]
def lo2 : List PySem.Str := ["_law_steps", "_law_start", "_law_fall", "_law_by", "_law_falls", "_law_row", "_law_made", "_law_back", "_law_ahead", "_law_heads", "_law_greedy", "_law_wholes", "_law_order", "_law_standing", "_law_deeds", "_law_done", "_law_walked", "_law_each_seam_right", "_law_good"]
def lo : List PySem.Str := lo0 ++ lo1 ++ lo2
abbrev R : PySem.W.OpenRow := PySem.W.OpenLaw.row PySem.Challenge.rw_seamlayers_k34_whole_ends_of_classes
def ts : List He.Tab := [(fun K => He.ga K "BOUNDS", ["plain", "mirror", "ring"])]
def tupI (K : PySem.W.Frag) (d : Addr) (z : PySem.Str) (lo hi : Int) : Bool := match PySem.W.nsIn K d z with
  | some (some (.ref t)) => (match K.lookup t with
    | some ⟨.type c, _, .seq its _, _⟩ => decide (c = "tuple") && (match its.toList with
      | [.int a _, .int b _] => decide (a = lo) && decide (b = hi)
      | _ => false)
    | _ => false)
  | _ => false
def ex (K : PySem.W.Frag) : Bool := tupI K (He.ga K "BOUNDS") "plain" 1 7 && (tupI K (He.ga K "BOUNDS") "mirror" 1 5 && (tupI K (He.ga K "BOUNDS") "ring" 2 5 &&
  (He.eqO (PySem.W.findIn K (.ref (He.ga K "Kind")) "__class__") (some (some (.builtin "object.__class__"))) && (He.eqO (PySem.W.specialIn K (.builtin "object.__class__") "__get__") (some (some (.builtin "getset_descriptor.__get__"))) &&
  (decide (PySem.W.takesIn K (.builtin "object.__class__") = some true) && (decide (PySem.W.mroIn K (He.ga K "Kind") (.type "object") = some true) && decide (PySem.W.kitOne K (.ref (He.ga K "Kind")) (.ref (He.ga K "Kind")) = some true)))))))
/-! a Hook of my own: what is looked at are the module's values, what they name, the classes' tables, the methods, their code -/
def refsAt (g : Addr → Option Obj) (a : Addr) : List Addr := match g a with
  | some o => He.refsO o
  | none => []
def nsAt (g : Addr → Option Obj) (a : Addr) : List Addr := match g a with
  | some ⟨_, _, .cls cd, _⟩ => [cd.ns]
  | _ => []
def near (g : Addr → Option Obj) (as : List Addr) : List Addr := as ++ as.flatMap (refsAt g)
def asS (g : Addr → Option Obj) : List Addr := mainGlobals :: (near g (refsAt g mainGlobals) ++ near g (((refsAt g mainGlobals).flatMap (nsAt g)).flatMap (refsAt g)))
def obsS (g : Addr → Option Obj) : He.AlT × Bool := (He.obsT fa fn ts (He.frG g (asS g)), ex (He.frG g (asS g)))
/-- what is told of the top -/
structure Says (w : World) (K : PySem.W.Frag) : Prop where
  t : He.SaysT fa fn ts w K
  more : ex K = true
def hk : PySem.W.Hook where
  α := He.AlT × Bool
  obs := fun s => obsS s.heap.get?
  val := fun w => (He.valT fn ts w, true)
  says := fun w h => ∃ K : PySem.W.Frag, K.In h ∧ Says w K
  of := fun w s e => ⟨_, He.frG_in, ⟨congrArg (fun z : He.AlT × Bool => z.1) e, congrArg (fun z : He.AlT × Bool => z.2) e⟩⟩
  keeps := fun _ _ _ ⟨K, hK, c⟩ k => ⟨K, PySem.W.Frag.In.keeps hK k, c⟩
def ob (s : PySem.W.SharedT) : He.AlT × Bool := obsS (HandSHeadRun.getT s)
theorem ob_eq (s : PySem.W.SharedT) : ob s = hk.obs s.abs := by
  have e : HandSHeadRun.getT s = s.abs.heap.get? := funext (HandSHeadRun.getT_eq s)
  show obsS _ = obsS _
  rw [e]
theorem runF (w : World) : HandSHeadRun.RunEq R (PySem.W.view R.prog [87]) hk ob 4000 lo (w.withFollow "special-get-raises" false) := by
  intro os
  kernel_rfl
theorem runT (w : World) : HandSHeadRun.RunEq R (PySem.W.view R.prog [87]) hk ob 4000 lo (w.withFollow "special-get-raises" true) := by
  intro os
  kernel_rfl
theorem run (w : World) : HandSHeadRun.RunEq R (PySem.W.view R.prog [87]) hk ob 4000 lo w := PySem.W.byRow2 "special-get-raises" (P := fun w => HandSHeadRun.RunEq R (PySem.W.view R.prog [87]) hk ob 4000 lo w) runF runT w
end SLH
end
section
set_option Elab.async false
set_option linter.all false
set_option maxRecDepth 100000
/-! The value layer: typed data in the heap, and what a reading evaluates to. -/
namespace SL
open PySem PySem.Spec PyProof.Rows L2
abbrev Ex := Evl.Ex

/-! ### data -/
/-- a way in which a value stands for a datum -/
structure RP (α : Type) where
  r : Hp → V → α → Prop
  mono : ∀ {H H' : Hp} {v : V} {x : α}, Ex H H' → r H v x → r H' v x
theorem paired_mono {α : Type} {F G : V → α → Prop} (h : ∀ v x, F v x → G v x) {vs : List V} {xs : List α} (p : Paired F vs xs) : Paired G vs xs := Paired.mapP p fun v x q => h v x q
def jI : RP Int := ⟨fun _ v x => v = .int x, fun _ h => h⟩
def jB : RP Bool := ⟨fun _ v x => v = .bl x, fun _ h => h⟩
def jS : RP Str := ⟨fun _ v x => v = .str x, fun _ h => h⟩
def jLI : RP (List Int) := ⟨fun H v xs => ∃ a, v = .ref a ∧ H a = some (.lst (xs.map V.int)), fun e ⟨a, h1, h2⟩ => ⟨a, h1, e _ _ h2⟩⟩
def jL {α : Type} (R : RP α) : RP (List α) := ⟨fun H v xs => ∃ a vs, v = .ref a ∧ H a = some (.lst vs) ∧ Paired (R.r H) vs xs, fun e ⟨a, vs, h1, h2, h3⟩ => ⟨a, vs, h1, e _ _ h2, paired_mono (fun _ _ q => R.mono e q) h3⟩⟩
def jT2 {α β : Type} (R : RP α) (T : RP β) : RP (α × β) := ⟨fun H v x => ∃ a u w, v = .ref a ∧ H a = some (.tup [u, w]) ∧ R.r H u x.1 ∧ T.r H w x.2, fun e ⟨a, u, w, h1, h2, h3, h4⟩ => ⟨a, u, w, h1, e _ _ h2, R.mono e h3, T.mono e h4⟩⟩
def jT3 {α β γ : Type} (R : RP α) (T : RP β) (U : RP γ) : RP (α × β × γ) := ⟨fun H v x => ∃ a u w z, v = .ref a ∧ H a = some (.tup [u, w, z]) ∧ R.r H u x.1 ∧ T.r H w x.2.1 ∧ U.r H z x.2.2, fun e ⟨a, u, w, z, h1, h2, h3, h4, h5⟩ => ⟨a, u, w, z, h1, e _ _ h2, R.mono e h3, T.mono e h4, U.mono e h5⟩⟩
/-- what is new since H0 -/
def newOf (H0 H : Hp) : Hp := fun a => match H0 a with
  | some _ => none
  | none => H a
theorem newOf_at {H0 H : Hp} {p : Addr} (h : H0 p = none) : newOf H0 H p = H p := by unfold newOf; rw [h]
theorem newOf_some {H0 H : Hp} {p : Addr} {o : HO} (h : newOf H0 H p = some o) : H0 p = none ∧ H p = some o := by
  unfold newOf at h
  cases e : H0 p with
  | none => rw [e] at h; exact ⟨rfl, h⟩
  | some u => rw [e] at h; cases h
theorem newOf_ex {H0 H : Hp} : Ex (newOf H0 H) H := fun _ _ h => (newOf_some h).2
theorem newOf_mono {H0 H H' : Hp} (e : Ex H H') : Ex (newOf H0 H) (newOf H0 H') := fun a o h => by
  obtain ⟨h1, h2⟩ := newOf_some h
  rw [newOf_at h1]
  exact e _ _ h2
theorem newOf_back {H0 H1 H : Hp} (e : Ex H0 H1) : Ex (newOf H1 H) (newOf H0 H) := fun a o h => by
  obtain ⟨h1, h2⟩ := newOf_some h
  rw [newOf_at (Evl.fresh_back e h1)]
  exact h2
/-- .. and not at p -/
def nw (H0 : Hp) (p : Addr) (H : Hp) : Hp := fun a => if a = p then none else newOf H0 H a
theorem nw_some {H0 H : Hp} {p a : Addr} {o : HO} (h : nw H0 p H a = some o) : a ≠ p ∧ H0 a = none ∧ H a = some o := by
  unfold nw at h
  by_cases c : a = p
  · rw [if_pos c] at h; cases h
  · rw [if_neg c] at h
    exact ⟨c, newOf_some h⟩
theorem nw_at {H0 H : Hp} {p a : Addr} (h : H0 a = none) (c : a ≠ p) : nw H0 p H a = H a := by
  unfold nw
  rw [if_neg c, newOf_at h]
theorem nw_new {H0 H : Hp} {p : Addr} : Ex (nw H0 p H) (newOf H0 H) := fun a o h => by
  obtain ⟨_, h1, h2⟩ := nw_some h
  rw [newOf_at h1]; exact h2
theorem nw_ex {H0 H : Hp} {p : Addr} : Ex (nw H0 p H) H := fun a o h => (nw_some h).2.2
theorem nw_mono {H0 H H' : Hp} {p : Addr} (e : Ex H H') : Ex (nw H0 p H) (nw H0 p H') := fun a o h => by
  obtain ⟨h0, h1, h2⟩ := nw_some h
  rw [nw_at h1 h0]
  exact e _ _ h2
theorem nw_upd {H0 H : Hp} {p : Addr} {o : HO} : Ex (nw H0 p H) (nw H0 p (upd H p o)) := fun a u h => by
  obtain ⟨h0, h1, h2⟩ := nw_some h
  rw [nw_at h1 h0, upd_ne h0]
  exact h2
/-- new behind a heap that knows p -/
theorem nw_of {H0 H1 H : Hp} {p : Addr} (e : Ex H0 H1) (hp : H1 p ≠ none) : Ex (newOf H1 H) (nw H0 p H) := fun a o h => by
  obtain ⟨h1, h2⟩ := newOf_some h
  rw [nw_at (Evl.fresh_back e h1) (fun c => hp (by rw [← c]; exact h1))]
  exact h2
theorem ex_upd {H0 H : Hp} {p : Addr} {o : HO} (e : Ex H0 H) (h : H0 p = none) : Ex H0 (upd H p o) := Evl.Ex.mut e h
theorem newOf_none {H0 H : Hp} {p : Addr} (h : H p = none) : newOf H0 H p = none := by
  unfold newOf
  cases H0 p with
  | none => exact h
  | some _ => rfl
theorem newOf_upd {H0 H : Hp} {p : Addr} {o : HO} (h : H p = none) : Ex (newOf H0 H) (newOf H0 (upd H p o)) := newOf_mono (Evl.Ex.new h)

/-! ### what holds of a value in a heap, and stays -/
class Stab (P : V → Hp → Prop) : Prop where
  st : ∀ {v : V} {H H' : Hp}, Ex H H' → P v H → P v H'
/-- it is u -/
def Eqv (u : V) : V → Hp → Prop := fun v _ => v = u
/-- it stands for x -/
def Is {α : Type} (R : RP α) (x : α) : V → Hp → Prop := fun v H => R.r H v x
/-- .. by new objects alone -/
def Nu {α : Type} (R : RP α) (H0 : Hp) (x : α) : V → Hp → Prop := fun v H => R.r (newOf H0 H) v x
/-- .. for something of which p -/
def NuE {α : Type} (R : RP α) (H0 : Hp) (p : α → Prop) : V → Hp → Prop := fun v H => ∃ x, p x ∧ R.r (newOf H0 H) v x
/-- .. by objects of a region -/
def Rg {α : Type} (R : RP α) (G : Hp → Hp) (x : α) : V → Hp → Prop := fun v H => R.r (G H) v x
instance {u : V} : Stab (Eqv u) := ⟨fun _ h => h⟩
instance {α : Type} {R : RP α} {x : α} : Stab (Is R x) := ⟨fun e h => R.mono e h⟩
instance {α : Type} {R : RP α} {H0 : Hp} {x : α} : Stab (Nu R H0 x) := ⟨fun e h => R.mono (newOf_mono e) h⟩
instance {α : Type} {R : RP α} {H0 : Hp} {p : α → Prop} : Stab (NuE R H0 p) := ⟨fun e ⟨x, h1, h2⟩ => ⟨x, h1, R.mono (newOf_mono e) h2⟩⟩
theorem Nu.is {α : Type} {R : RP α} {H0 H : Hp} {x : α} {v : V} (h : Nu R H0 x v H) : R.r H v x := R.mono newOf_ex h
theorem Nu.back {α : Type} {R : RP α} {H0 H1 H : Hp} {x : α} {v : V} (e : Ex H0 H1) (h : Nu R H1 x v H) : Nu R H0 x v H := R.mono (newOf_back e) h
theorem NuE.back {α : Type} {R : RP α} {H0 H1 H : Hp} {p : α → Prop} {v : V} (e : Ex H0 H1) (h : NuE R H1 p v H) : NuE R H0 p v H := by
  obtain ⟨x, h1, h2⟩ := h
  exact ⟨x, h1, R.mono (newOf_back e) h2⟩

/-! ### what evaluates to what -/
section
variable {K : PySem.W.Frag} {σ : L2.St} {H H' : Hp} {ta tb te tc : TE} {tt tu : TT} {x y z v : V} {P P' P1 P2 P3 : V → Hp → Prop}
def Ev (te : TE) (σ : L2.St) (H : Hp) (P : V → Hp → Prop) : Prop := ∀ H1, Ex H H1 → ∀ Q : VK, (∀ v H2, Ex H1 H2 → P v H2 → Q v H2) → te σ H1 Q
def EvT (tt : TT) (σ : L2.St) (H : Hp) (b : Bool) : Prop := ∀ H1, Ex H H1 → ∀ Q : Bool → Hp → Prop, (∀ H2, Ex H1 H2 → Q b H2) → tt σ H1 Q
def EvA (ta : TA) (σ : L2.St) (H : Hp) (P : List V → Hp → Prop) : Prop := ∀ H1, Ex H H1 → ∀ Q : List V → Hp → Prop, (∀ vs H2, Ex H1 H2 → P vs H2 → Q vs H2) → ta σ H1 Q
theorem Ev.mono (e : Ex H H') (h : Ev te σ H P) : Ev te σ H' P := fun H1 a Q q => h H1 (e.trans a) Q q
theorem EvT.mono {b : Bool} (e : Ex H H') (h : EvT tt σ H b) : EvT tt σ H' b := fun H1 a Q q => h H1 (e.trans a) Q q
theorem EvA.mono {t : TA} {PA : List V → Hp → Prop} (e : Ex H H') (h : EvA t σ H PA) : EvA t σ H' PA := fun H1 a Q q => h H1 (e.trans a) Q q
theorem Ev.imp (h : Ev te σ H P) (k : ∀ v H1, Ex H H1 → P v H1 → P' v H1) : Ev te σ H P' := fun H1 e Q q => h H1 e Q fun v H2 e2 p => q v H2 e2 (k v H2 (e.trans e2) p)
theorem Ev.eq {u : V} (h : Ev te σ H (Eqv v)) (e : v = u) : Ev te σ H (Eqv u) := e ▸ h
theorem EvT.eq {b c : Bool} (h : EvT tt σ H b) (e : b = c) : EvT tt σ H c := e ▸ h
theorem Ev.is {α : Type} {R : RP α} {a : α} (h : Ev te σ H (Nu R H a)) : Ev te σ H (Is R a) := h.imp fun _ _ _ p => p.is
/-- an argument that stands in a slot -/
theorem ev_var {i : Nat} (h : σ[i]? = some (some v)) [s : Stab P] (p : P v H) : Ev (tVar i) σ H P := fun H1 e Q q => ⟨v, h, q v H1 (Evl.Ex.refl H1) (s.st e p)⟩
theorem ev_v {i : Nat} (h : σ[i]? = some (some v)) : Ev (tVar i) σ H (Eqv v) := ev_var h rfl
theorem ev_c : Ev (tC v) σ H (Eqv v) := fun H1 e Q q => q v H1 (Evl.Ex.refl H1) rfl
theorem ev_opG {r : R2} [s : Stab P1] (ha : Ev ta σ H P1) (hb : Ev tb σ H P2) (hr : ∀ x y H1, Ex H H1 → P1 x H1 → P2 y H1 → ∀ Q : VK, (∀ v H2, Ex H1 H2 → P v H2 → Q v H2) → r x y H1 Q) : Ev (tOp r ta tb) σ H P := fun H1 e Q q =>
  ha H1 e _ fun x H2 e2 p1 => hb H2 (e.trans e2) _ fun y H3 e3 p2 => hr x y H3 ((e.trans e2).trans e3) (s.st e3 p1) p2 Q fun v H4 e4 p => q v H4 ((e2.trans e3).trans e4) p
theorem ev_unG {r : V → Hp → VK → Prop} (ha : Ev ta σ H P1) (hr : ∀ x H1, Ex H H1 → P1 x H1 → ∀ Q : VK, (∀ v H2, Ex H1 H2 → P v H2 → Q v H2) → r x H1 Q) : Ev (tUn r ta) σ H P := fun H1 e Q q =>
  ha H1 e _ fun x H2 e2 p1 => hr x H2 (e.trans e2) p1 Q fun v H4 e4 p => q v H4 (e2.trans e4) p
/-- two ints -/
theorem ev_i0 {g : Int → Int → V} {i j : Int} (ha : Ev ta σ H (Eqv (.int i))) (hb : Ev tb σ H (Eqv (.int j))) : Ev (tOp (rI0 g) ta tb) σ H (Eqv (g i j)) :=
  ev_opG ha hb fun x y H1 _ h1 h2 Q q => ⟨i, j, h1, h2, q _ H1 (Evl.Ex.refl H1) rfl⟩
theorem ev_i {C : Int → Int → Prop} {g : Int → Int → V} {i j : Int} (ha : Ev ta σ H (Eqv (.int i))) (hb : Ev tb σ H (Eqv (.int j))) (hc : C i j) : Ev (tOp (rI C g) ta tb) σ H (Eqv (g i j)) :=
  ev_opG ha hb fun x y H1 _ h1 h2 Q q => ⟨i, j, h1, h2, hc, q _ H1 (Evl.Ex.refl H1) rfl⟩
theorem ev_u {g : Int → V} {i : Int} (ha : Ev ta σ H (Eqv (.int i))) : Ev (tUn (rU g) ta) σ H (Eqv (g i)) :=
  ev_unG ha fun x H1 _ h1 Q q => ⟨i, h1, q _ H1 (Evl.Ex.refl H1) rfl⟩
theorem ev_eq (ha : Ev ta σ H (Eqv x)) (hb : Ev tb σ H (Eqv y)) (h : scal x y = true) : Ev (tOp rEq ta tb) σ H (Eqv (.bl (decide (x = y)))) :=
  ev_opG ha hb fun u w H1 _ h1 h2 Q q => by
    cases h1; cases h2
    exact ⟨h, q _ H1 (Evl.Ex.refl H1) rfl⟩
theorem ev_ne (ha : Ev ta σ H (Eqv x)) (hb : Ev tb σ H (Eqv y)) (h : scal x y = true) : Ev (tOp rNe ta tb) σ H (Eqv (.bl (!decide (x = y)))) :=
  ev_opG ha hb fun u w H1 _ h1 h2 Q q => by
    cases h1; cases h2
    exact ⟨h, q _ H1 (Evl.Ex.refl H1) rfl⟩
/-- tests -/
theorem et_test {b : Bool} (h : Ev te σ H (Eqv (.bl b))) : EvT (tTest te) σ H b := fun H1 e _ q => h H1 e _ fun v H2 e2 p => ⟨b, p, q H2 e2⟩
theorem et_B {b : Bool} (h : Ev te σ H (Eqv (.bl b))) : EvT (tB te) σ H b := fun H1 e _ q => h H1 e _ fun v H2 e2 p => ⟨b, p, q H2 e2⟩
theorem et_and {a b : Bool} (h1 : EvT tt σ H a) (h2 : a = true → EvT tu σ H b) : EvT (tAnd tt tu) σ H (a && b) := fun H1 e Q q => h1 H1 e _ fun H2 e2 => by
  cases a with
  | true => exact L2.iteT (h2 rfl H2 (e.trans e2) Q fun H3 e3 => q H3 (e2.trans e3))
  | false => exact L2.iteF (q H2 e2)
theorem et_or {a b : Bool} (h1 : EvT tt σ H a) (h2 : a = false → EvT tu σ H b) : EvT (tOr tt tu) σ H (a || b) := fun H1 e Q q => h1 H1 e _ fun H2 e2 => by
  cases a with
  | true => exact L2.iteT (q H2 e2)
  | false => exact L2.iteF (h2 rfl H2 (e.trans e2) Q fun H3 e3 => q H3 (e2.trans e3))
theorem et_not {a : Bool} (h1 : EvT tt σ H a) : EvT (tNot tt) σ H (!a) := fun H1 e _ q => h1 H1 e _ fun H2 e2 => q H2 e2
theorem ev_and {a b : Bool} (h1 : Ev ta σ H (Eqv (.bl a))) (h2 : a = true → Ev tb σ H (Eqv (.bl b))) : Ev (tAndV ta tb) σ H (Eqv (.bl (a && b))) := fun H1 e Q q => h1 H1 e _ fun v H2 e2 p => ⟨a, p, by
  cases a with
  | true => exact L2.iteT (h2 rfl H2 (e.trans e2) Q fun v H3 e3 p => q v H3 (e2.trans e3) p)
  | false => exact L2.iteF (q _ H2 e2 rfl)⟩
theorem ev_or {a b : Bool} (h1 : Ev ta σ H (Eqv (.bl a))) (h2 : a = false → Ev tb σ H (Eqv (.bl b))) : Ev (tOrV ta tb) σ H (Eqv (.bl (a || b))) := fun H1 e Q q => h1 H1 e _ fun v H2 e2 p => ⟨a, p, by
  cases a with
  | true => exact L2.iteT (q _ H2 e2 rfl)
  | false => exact L2.iteF (h2 rfl H2 (e.trans e2) Q fun v H3 e3 p => q v H3 (e2.trans e3) p)⟩
theorem ev_not {a : Bool} (h1 : Ev ta σ H (Eqv (.bl a))) : Ev (tNotV ta) σ H (Eqv (.bl (!a))) := fun H1 e _ q => h1 H1 e _ fun v H2 e2 p => ⟨a, p, q _ H2 e2 rfl⟩
theorem ev_if {b : Bool} (h : EvT tt σ H b) (h1 : b = true → Ev ta σ H P) (h2 : b = false → Ev tb σ H P) : Ev (tIf tt ta tb) σ H P := fun H1 e Q q => h H1 e _ fun H2 e2 => by
  cases b with
  | true => exact L2.iteT (h1 rfl H2 (e.trans e2) Q fun v H3 e3 p => q v H3 (e2.trans e3) p)
  | false => exact L2.iteF (h2 rfl H2 (e.trans e2) Q fun v H3 e3 p => q v H3 (e2.trans e3) p)
/-- arguments -/
theorem ea_nil : EvA tNil σ H (fun vs _ => vs = []) := fun H1 e Q q => q [] H1 (Evl.Ex.refl H1) rfl
theorem ea_cons {tr : TA} {PA : List V → Hp → Prop} [s : Stab P] (h : Ev te σ H P) (hr : EvA tr σ H PA) : EvA (tCons te tr) σ H (fun vs H1 => ∃ v r, vs = v :: r ∧ P v H1 ∧ PA r H1) := fun H1 e Q q =>
  h H1 e _ fun v H2 e2 p => hr H2 (e.trans e2) _ fun r H3 e3 pa => q _ H3 (e2.trans e3) ⟨v, r, rfl, s.st e3 p, pa⟩
theorem ea_1 (h : Ev te σ H P) : EvA (tCons te tNil) σ H (fun vs H1 => ∃ v, vs = [v] ∧ P v H1) := fun H1 e Q q => h H1 e _ fun v H2 e2 p => q _ H2 e2 ⟨v, rfl, p⟩
theorem ea_2 [s1 : Stab P1] (h1 : Ev ta σ H P1) (h2 : Ev tb σ H P2) : EvA (tCons ta (tCons tb tNil)) σ H (fun vs H1 => ∃ v w, vs = [v, w] ∧ P1 v H1 ∧ P2 w H1) := fun H1 e Q q =>
  h1 H1 e _ fun v H2 e2 p => h2 H2 (e.trans e2) _ fun w H3 e3 p2 => q _ H3 (e2.trans e3) ⟨v, w, rfl, s1.st e3 p, p2⟩
theorem ea_3 [s1 : Stab P1] [s2 : Stab P2] (h1 : Ev ta σ H P1) (h2 : Ev tb σ H P2) (h3 : Ev tc σ H P3) : EvA (tCons ta (tCons tb (tCons tc tNil))) σ H (fun vs H1 => ∃ v w u, vs = [v, w, u] ∧ P1 v H1 ∧ P2 w H1 ∧ P3 u H1) := fun H1 e Q q =>
  h1 H1 e _ fun v H2 e2 p => h2 H2 (e.trans e2) _ fun w H3 e3 p2 => h3 H3 ((e.trans e2).trans e3) _ fun u H4 e4 p3 => q _ H4 ((e2.trans e3).trans e4) ⟨v, w, u, rfl, s1.st (e3.trans e4) p, s2.st e4 p2, p3⟩
theorem ea_4 {td : TE} {P4 : V → Hp → Prop} [s1 : Stab P1] [s2 : Stab P2] [s3 : Stab P3] (h1 : Ev ta σ H P1) (h2 : Ev tb σ H P2) (h3 : Ev tc σ H P3) (h4 : Ev td σ H P4) : EvA (tCons ta (tCons tb (tCons tc (tCons td tNil)))) σ H (fun vs H1 => ∃ v w u z, vs = [v, w, u, z] ∧ P1 v H1 ∧ P2 w H1 ∧ P3 u H1 ∧ P4 z H1) := fun H1 e Q q =>
  h1 H1 e _ fun v H2 e2 p => h2 H2 (e.trans e2) _ fun w H3 e3 p2 => h3 H3 ((e.trans e2).trans e3) _ fun u H4 e4 p3 => h4 H4 (((e.trans e2).trans e3).trans e4) _ fun z H5 e5 p4 => q _ H5 (((e2.trans e3).trans e4).trans e5) ⟨v, w, u, z, rfl, s1.st ((e3.trans e4).trans e5) p, s2.st (e4.trans e5) p2, s3.st e5 p3, p4⟩
/-- a promise's use: from vs at H it comes to a value of which P -/
def Run (sp : Sp) (vs : List V) (H : Hp) (P : V → Hp → Prop) : Prop := ∀ (Q : VK) (E : XK), (∀ v H2, Ex H H2 → P v H2 → Q v H2) → sp vs H Q E
theorem ev_call {sp : Sp} {E : XK} {t : TA} {PA : List V → Hp → Prop} (h : EvA t σ H PA) (hs : ∀ vs H1, Ex H H1 → PA vs H1 → Run sp vs H1 P) : Ev (tCall sp [] E t) σ H P := fun H1 e Q q =>
  h H1 e _ fun vs H2 e2 pa => by
    rw [List.append_nil]
    exact hs vs H2 (e.trans e2) pa Q E fun v H3 e3 p => q v H3 (e2.trans e3) p
theorem ev_cb {r : List V → Hp → VK → Prop} {t : TA} {PA : List V → Hp → Prop} (h : EvA t σ H PA) (hr : ∀ vs H1, Ex H H1 → PA vs H1 → ∀ Q : VK, (∀ v H2, Ex H1 H2 → P v H2 → Q v H2) → r vs H1 Q) : Ev (tCB r t) σ H P := fun H1 e Q q =>
  h H1 e _ fun vs H2 e2 pa => hr vs H2 (e.trans e2) pa Q fun v H3 e3 p => q v H3 (e2.trans e3) p

/-! ### lists and tuples -/
theorem jLI_sq {a : Addr} {xs : List Int} (h : H a = some (.lst (xs.map V.int))) : SqL K H a (xs.map V.int) := .inl (.inl h)
theorem jLI_new {H0 : Hp} {p : Addr} {xs : List Int} (h0 : H0 p = none) (h : H p = some (.lst (xs.map V.int))) : Nu jLI H0 xs (.ref p) H := ⟨p, rfl, by rw [newOf_at h0]; exact h⟩
theorem jL_new {α : Type} {R : RP α} {H0 : Hp} {p : Addr} {vs : List V} {xs : List α} (h0 : H0 p = none) (h : H p = some (.lst vs)) (hp : Paired (R.r (newOf H0 H)) vs xs) : Nu (jL R) H0 xs (.ref p) H := ⟨p, vs, rfl, by rw [newOf_at h0]; exact h, hp⟩
theorem paired_get {α : Type} {F : V → α → Prop} : ∀ {vs : List V} {xs : List α} {i : Nat} {v : V}, Paired F vs xs → vs[i]? = some v → ∃ x, xs[i]? = some x ∧ F v x
  | _, _, _, _, .nil, h => by simp at h
  | _, _, 0, _, .cons r _, h => ⟨_, rfl, by simp at h; exact h ▸ r⟩
  | _, _, i + 1, _, .cons _ t, h => paired_get (i := i) t (by simpa using h)
theorem paired_get' {α : Type} {F : V → α → Prop} : ∀ {vs : List V} {xs : List α} {i : Nat} {x : α}, Paired F vs xs → xs[i]? = some x → ∃ v, vs[i]? = some v ∧ F v x
  | _, _, _, _, .nil, h => by simp at h
  | _, _, 0, _, .cons r _, h => ⟨_, rfl, by simp at h; exact h ▸ r⟩
  | _, _, i + 1, _, .cons _ t, h => paired_get' (i := i) t (by simpa using h)
theorem paired_snoc {α : Type} {F : V → α → Prop} : ∀ {vs : List V} {xs : List α} {v : V} {x : α}, Paired F vs xs → F v x → Paired F (vs ++ [v]) (xs ++ [x])
  | _, _, _, _, .nil, h => .cons h .nil
  | _, _, _, _, .cons r t, h => .cons r (paired_snoc t h)
theorem paired_app {α : Type} {F : V → α → Prop} : ∀ {vs ws : List V} {xs ys : List α}, Paired F vs xs → Paired F ws ys → Paired F (vs ++ ws) (xs ++ ys)
  | _, _, _, _, .nil, h => h
  | _, _, _, _, .cons r t, h => .cons r (paired_app t h)
theorem paired_set {α : Type} {F : V → α → Prop} : ∀ {vs : List V} {xs : List α} (i : Nat) {v : V} {x : α}, Paired F vs xs → F v x → Paired F (vs.set i v) (xs.set i x)
  | _, _, _, _, _, .nil, _ => .nil
  | _, _, 0, _, _, .cons _ t, h => .cons h t
  | _, _, i + 1, _, _, .cons r t, h => .cons r (paired_set i t h)
theorem paired_drop {α : Type} {F : V → α → Prop} : ∀ {vs : List V} {xs : List α} (n : Nat), Paired F vs xs → Paired F (vs.drop n) (xs.drop n)
  | _, _, 0, h => h
  | _, _, _ + 1, .nil => .nil
  | _, _, n + 1, .cons _ t => paired_drop n t
theorem paired_take {α : Type} {F : V → α → Prop} : ∀ {vs : List V} {xs : List α} (n : Nat), Paired F vs xs → Paired F (vs.take n) (xs.take n)
  | _, _, 0, _ => .nil
  | _, _, _ + 1, .nil => .nil
  | _, _, n + 1, .cons r t => .cons r (paired_take n t)
theorem paired_rev {α : Type} {F : V → α → Prop} : ∀ {vs : List V} {xs : List α}, Paired F vs xs → Paired F vs.reverse xs.reverse
  | _, _, .nil => .nil
  | _, _, .cons r t => by rw [List.reverse_cons, List.reverse_cons]; exact paired_snoc (paired_rev t) r
theorem paired_int : ∀ {vs : List V} {xs : List Int}, Paired (fun v x => v = V.int x) vs xs → vs = xs.map V.int
  | _, _, .nil => rfl
  | _, _, .cons r t => by rw [List.map_cons, ← paired_int t, r]
theorem paired_ofInt : ∀ (xs : List Int), Paired (fun v x => v = V.int x) (xs.map V.int) xs
  | [] => .nil
  | _ :: xs => .cons rfl (paired_ofInt xs)
theorem get_map {xs : List Int} {i : Nat} {x : Int} (h : xs[i]? = some x) : (xs.map V.int)[i]? = some (.int x) := by rw [List.getElem?_map, h]; rfl
theorem atI_lt {α : Type} {xs : List α} {j : Nat} (h : j < xs.length) : atI xs (j : Int) = xs[j]? := by
  unfold atI
  rw [Evl.ixN_nat h]
  rfl
theorem atI_of {α : Type} {xs : List α} {i : Int} {x : α} {j : Nat} (e : i = (j : Int)) (h : xs[j]? = some x) : atI xs i = some x := by
  subst e
  rw [atI_lt (List.getElem?_eq_some_iff.mp h).1, h]
theorem atI_m1 {α : Type} {xs : List α} {x : α} (h : xs.getLast? = some x) : atI xs (-1) = some x := by
  have hl : xs ≠ [] := fun e => by rw [e] at h; cases h
  have hp := List.length_pos_iff.mpr hl
  unfold atI ixN
  rw [if_neg (by decide), if_pos (by omega)]
  rw [List.getLast?_eq_getElem?] at h
  show xs[((-1 : Int) + (xs.length : Int)).toNat]? = some x
  rw [show ((-1 : Int) + (xs.length : Int)).toNat = xs.length - 1 by omega]
  exact h
/-- xs[i] of a list of ints -/
theorem ev_ixI {xs : List Int} {i x : Int} {j : Nat} (ha : Ev ta σ H (Is jLI xs)) (hb : Ev tb σ H (Eqv (.int i))) (e : i = (j : Int)) (h : xs[j]? = some x) : Ev (tOp (rIxL K) ta tb) σ H (Eqv (.int x)) :=
  ev_opG ha hb fun u w H1 _ ⟨a, h1, h2⟩ h3 Q q => by
    cases h1; cases h3
    exact ⟨a, _, i, .int x, rfl, rfl, jLI_sq h2, atI_of e (get_map h), q _ H1 (Evl.Ex.refl H1) rfl⟩
/-- xs[i] of a list of data -/
theorem ev_ixL {α : Type} {R : RP α} {xs : List α} {i : Int} {x : α} {j : Nat} (ha : Ev ta σ H (Is (jL R) xs)) (hb : Ev tb σ H (Eqv (.int i))) (e : i = (j : Int)) (h : xs[j]? = some x) : Ev (tOp (rIxL K) ta tb) σ H (Is R x) :=
  ev_opG ha hb fun u w H1 _ ⟨a, vs, h1, h2, h3⟩ h4 Q q => by
    cases h1; cases h4
    obtain ⟨v, h5, h6⟩ := paired_get' h3 h
    exact ⟨a, _, i, v, rfl, rfl, .inl (.inl h2), atI_of e h5, q _ H1 (Evl.Ex.refl H1) h6⟩
theorem ev_ixLn {α : Type} {R : RP α} {H0 : Hp} {xs : List α} {i : Int} {x : α} {j : Nat} (ha : Ev ta σ H (Nu (jL R) H0 xs)) (hb : Ev tb σ H (Eqv (.int i))) (e : i = (j : Int)) (h : xs[j]? = some x) : Ev (tOp (rIxL K) ta tb) σ H (Nu R H0 x) :=
  ev_opG ha hb fun u w H1 _ ⟨a, vs, h1, h2, h3⟩ h4 Q q => by
    cases h1; cases h4
    obtain ⟨v, h5, h6⟩ := paired_get' h3 h
    exact ⟨a, _, i, v, rfl, rfl, .inl (.inl (newOf_ex _ _ h2)), atI_of e h5, q _ H1 (Evl.Ex.refl H1) h6⟩
/-- the last item -/
theorem paired_last {α : Type} {F : V → α → Prop} {vs : List V} {xs : List α} {x : α} (p : Paired F vs xs) (h : xs.getLast? = some x) : ∃ v, vs.getLast? = some v ∧ F v x := by
  rw [List.getLast?_eq_getElem?] at h
  rw [List.getLast?_eq_getElem?, Paired.length p]
  exact paired_get' p h
theorem ev_lastL {α : Type} {R : RP α} {xs : List α} {x : α} (ha : Ev ta σ H (Is (jL R) xs)) (hb : Ev tb σ H (Eqv (.int (-1)))) (h : xs.getLast? = some x) : Ev (tOp (rIxL K) ta tb) σ H (Is R x) :=
  ev_opG ha hb fun u w H1 _ ⟨a, vs, h1, h2, h3⟩ h4 Q q => by
    cases h1; cases h4
    obtain ⟨v, h5, h6⟩ := paired_last h3 h
    exact ⟨a, _, -1, v, rfl, rfl, .inl (.inl h2), atI_m1 h5, q _ H1 (Evl.Ex.refl H1) h6⟩
/-- len -/
theorem ev_lenI {xs : List Int} {r : List V → Hp → VK → Prop} (hr : ∀ (p : Addr) (ys : List V) (H : Hp) (Q : VK), SqL K H p ys → Q (.int ys.length) H → r [.ref p] H Q) (ha : Ev ta σ H (Is jLI xs)) : Ev (tCB r (tCons ta tNil)) σ H (Eqv (.int (xs.length : Int))) :=
  ev_cb (ea_1 ha) fun vs H1 _ ⟨v, e, a, h1, h2⟩ Q q => by
    subst e h1
    refine hr a _ H1 Q (jLI_sq h2) ?_
    rw [List.length_map]
    exact q _ H1 (Evl.Ex.refl H1) rfl
theorem ev_lenL {α : Type} {R : RP α} {xs : List α} {r : List V → Hp → VK → Prop} (hr : ∀ (p : Addr) (ys : List V) (H : Hp) (Q : VK), SqL K H p ys → Q (.int ys.length) H → r [.ref p] H Q) (ha : Ev ta σ H (Is (jL R) xs)) : Ev (tCB r (tCons ta tNil)) σ H (Eqv (.int (xs.length : Int))) :=
  ev_cb (ea_1 ha) fun vs H1 _ ⟨v, e, a, ws, h1, h2, h3⟩ Q q => by
    subst e h1
    refine hr a _ H1 Q (.inl (.inl h2)) ?_
    rw [Paired.length h3]
    exact q _ H1 (Evl.Ex.refl H1) rfl
/-- a display -/
theorem ev_lst {t : TA} {PA : List V → Hp → Prop} (h : EvA t σ H PA) (hz : ∀ vs H1, PA vs H1 → vs.length ≤ 100000) (k : ∀ vs H1 p, Ex H H1 → PA vs H1 → H1 p = none → P (.ref p) (upd H1 p (.lst vs))) : Ev (tLst t) σ H P := fun H1 e Q q =>
  h H1 e _ fun vs H2 e2 pa => ⟨Evl.sz_of (hz vs H2 pa), fun p hp => q _ _ (e2.trans (Evl.Ex.new hp)) (k vs H2 p (e.trans e2) pa hp)⟩
theorem ev_tup {t : TA} {PA : List V → Hp → Prop} (h : EvA t σ H PA) (hz : ∀ vs H1, PA vs H1 → vs.length ≤ 100000) (k : ∀ vs H1 p, Ex H H1 → PA vs H1 → H1 p = none → P (.ref p) (upd H1 p (.tup vs))) : Ev (tTup t) σ H P := fun H1 e Q q =>
  h H1 e _ fun vs H2 e2 pa => ⟨Evl.sz_of (hz vs H2 pa), fun p hp => q _ _ (e2.trans (Evl.Ex.new hp)) (k vs H2 p (e.trans e2) pa hp)⟩
theorem fresh0 {p : Addr} (e : Ex H H') (h : H' p = none) : H p = none := Evl.fresh_back e h
theorem newOf_new {H0 : Hp} {p : Addr} {o : HO} (e : Ex H0 H) (h : H p = none) : newOf H0 (upd H p o) p = some o := by
  rw [newOf_at (fresh0 e h), upd_same]
/-- [] -/
theorem ev_nil {α : Type} {R : RP α} : Ev (tLst tNil) σ H (Nu (jL R) H []) := ev_lst ea_nil (fun vs H1 e => by rw [e]; decide) fun vs H1 p e pa hp => by
  subst pa
  exact ⟨p, [], rfl, newOf_new e hp, .nil⟩
theorem ev_nilI : Ev (tLst tNil) σ H (Nu jLI H []) := ev_lst ea_nil (fun vs H1 e => by rw [e]; decide) fun vs H1 p e pa hp => by
  subst pa
  exact ⟨p, rfl, newOf_new e hp⟩

/-! ### statements -/
variable {D : Ends} {ts tu' tw tz : TS} {i : Nat}
theorem s_set (h : Ev te σ H P) (k : ∀ v H1, Ex H H1 → P v H1 → D.nx (σ.set i (some v)) H1) : tAsg te (gName i) D σ H := h H (Evl.Ex.refl H) _ k
theorem q_set (h : Ev te σ H P) (k : ∀ v H1, Ex H H1 → P v H1 → tz D (σ.set i (some v)) H1) : tSeq (tAsg te (gName i)) tz D σ H := h H (Evl.Ex.refl H) _ k
theorem s_ret (h : Ev te σ H P) (k : ∀ v H1, Ex H H1 → P v H1 → D.rt v H1) : tRet te D σ H := h H (Evl.Ex.refl H) _ k
theorem s_if {b : Bool} (h : EvT tt σ H b) (h1 : b = true → ∀ H1, Ex H H1 → ts D σ H1) (h2 : b = false → ∀ H1, Ex H H1 → tw D σ H1) : tIfS tt ts tw D σ H := h H (Evl.Ex.refl H) _ fun H1 e => by
  cases b with
  | true => exact L2.iteT (h1 rfl H1 e)
  | false => exact L2.iteF (h2 rfl H1 e)
theorem q_if {b : Bool} (h : EvT tt σ H b) (h1 : b = true → ∀ H1, Ex H H1 → ts { D with nx := tz D } σ H1) (h2 : b = false → ∀ H1, Ex H H1 → tw { D with nx := tz D } σ H1) : tSeq (tIfS tt ts tw) tz D σ H := s_if (D := { D with nx := tz D }) h h1 h2
theorem q_when {b : Bool} (h : EvT tt σ H b) (h1 : b = true → ∀ H1, Ex H H1 → ts { D with nx := tz D } σ H1) (h2 : b = false → ∀ H1, Ex H H1 → tz D σ H1) : tSeq (tIfS tt ts tNext) tz D σ H := s_if (D := { D with nx := tz D }) h h1 h2
theorem s_drop (h : Ev te σ H P) (k : ∀ v H1, Ex H H1 → P v H1 → D.nx σ H1) : tDrop te D σ H := h H (Evl.Ex.refl H) _ fun v H1 e p => k v H1 e p
theorem q_drop (h : Ev te σ H P) (k : ∀ v H1, Ex H H1 → P v H1 → tz D σ H1) : tSeq (tDrop te) tz D σ H := h H (Evl.Ex.refl H) _ fun v H1 e p => k v H1 e p
end
end SL
end
section
set_option Elab.async false
set_option linter.all false
/-! The mathematics of layers, apart from lists: a set W with right steps, left steps, opposites, falls and lengths. -/
namespace CX
structure Sys (W : Type) where
  m : Nat
  e : W
  ok : W → Prop
  R : W → Nat → W
  L : W → Nat → W
  inv : W → W
  fall : W → Nat → Bool
  len : W → Nat
  ok_e : ok e
  ok_R : ∀ {w s}, ok w → s < m → ok (R w s)
  ok_L : ∀ {w s}, ok w → s < m → ok (L w s)
  ok_inv : ∀ {w}, ok w → ok (inv w)
  RR : ∀ {w s}, ok w → s < m → R (R w s) s = w
  LR : ∀ {w s t}, ok w → s < m → t < m → L (R w t) s = R (L w s) t
  L_e : ∀ {s}, s < m → L e s = R e s
  inv_e : inv e = e
  inv_inv : ∀ {w}, ok w → inv (inv w) = w
  inv_R : ∀ {w s}, ok w → s < m → inv (R w s) = L (inv w) s
  fall_R : ∀ {w s}, ok w → s < m → fall (R w s) s = !fall w s
  len_e : len e = 0
  len_up : ∀ {w s}, ok w → s < m → fall w s = false → len (R w s) = len w + 1
  no_fall : ∀ {w}, ok w → (∀ s, s < m → fall w s = false) → w = e
  key : ∀ {w s t}, ok w → s < m → t < m → fall (L w s) t ≠ fall w t → L w s = R w t

section
variable {W : Type} (S : Sys W) {w x y : W} {s t : Nat} {r q : List Nat}

/-- a word of steps -/
def Wd (r : List Nat) : Prop := ∀ s, s ∈ r → s < S.m
theorem Wd.nil : Wd S [] := fun _ h => nomatch h
variable {S}
theorem Wd.cons (h : s < S.m) (k : Wd S r) : Wd S (s :: r) := fun t ht => by
  rcases List.mem_cons.mp ht with e | e
  · exact e ▸ h
  · exact k t e
theorem Wd.head (h : Wd S (s :: r)) : s < S.m := h s List.mem_cons_self
theorem Wd.tail (h : Wd S (s :: r)) : Wd S r := fun t ht => h t (List.mem_cons_of_mem _ ht)
theorem Wd.app (h : Wd S r) (k : Wd S q) : Wd S (r ++ q) := fun t ht => (List.mem_append.mp ht).elim (h t) (k t)
theorem Wd.left (h : Wd S (r ++ q)) : Wd S r := fun t ht => h t (List.mem_append_left _ ht)
theorem Wd.right (h : Wd S (r ++ q)) : Wd S q := fun t ht => h t (List.mem_append_right _ ht)
theorem Wd.rev (h : Wd S r) : Wd S r.reverse := fun t ht => h t (List.mem_reverse.mp ht)
theorem Wd.one (h : s < S.m) : Wd S [s] := Wd.cons h (Wd.nil S)

/-! ### steps and lengths -/
theorem Sys.len_down (hw : S.ok w) (hs : s < S.m) (h : S.fall w s = true) : S.len (S.R w s) + 1 = S.len w := by
  have h1 : S.fall (S.R w s) s = false := by rw [S.fall_R hw hs, h]; rfl
  have h2 := S.len_up (S.ok_R hw hs) hs h1
  rw [S.RR hw hs] at h2
  omega
theorem Sys.fall_e (hs : s < S.m) : S.fall S.e s = false := by
  cases h : S.fall S.e s with
  | false => rfl
  | true =>
    have h2 := S.len_down S.ok_e hs h
    rw [S.len_e] at h2
    omega
theorem Sys.inv_L (hw : S.ok w) (hs : s < S.m) : S.inv (S.L w s) = S.R (S.inv w) s := by
  have h := S.inv_R (S.ok_inv hw) hs
  rw [S.inv_inv hw] at h
  rw [← h, S.inv_inv (S.ok_R (S.ok_inv hw) hs)]
theorem Sys.LL (hw : S.ok w) (hs : s < S.m) : S.L (S.L w s) s = w := by
  have h := S.inv_R (S.ok_inv (S.ok_L hw hs)) hs
  rw [S.inv_inv (S.ok_L hw hs), S.inv_L hw hs, S.RR (S.ok_inv hw) hs, S.inv_inv hw] at h
  exact h.symm
/-- the order that a row makes from w -/
def made (S : Sys W) (w : W) (r : List Nat) : W := r.foldl S.R w
theorem made_nil : made S w [] = w := rfl
theorem made_cons : made S w (s :: r) = made S (S.R w s) r := rfl
theorem made_app : made S w (r ++ q) = made S (made S w r) q := List.foldl_append
theorem made_snoc : made S w (r ++ [s]) = S.R (made S w r) s := by rw [made_app]; rfl
theorem made_ok (hw : S.ok w) (hr : Wd S r) : S.ok (made S w r) := by
  induction r generalizing w with
  | nil => exact hw
  | cons s r ih => exact ih (S.ok_R hw hr.head) hr.tail
theorem len_R_le (hw : S.ok w) (hs : s < S.m) : S.len (S.R w s) ≤ S.len w + 1 := by
  cases h : S.fall w s with
  | false => rw [S.len_up hw hs h]; exact Nat.le_refl _
  | true => have := S.len_down hw hs h; omega
theorem made_len (hw : S.ok w) (hr : Wd S r) : S.len (made S w r) ≤ S.len w + r.length := by
  induction r generalizing w with
  | nil => exact Nat.le_refl _
  | cons s r ih =>
    have h1 := ih (S.ok_R hw hr.head) hr.tail
    have h2 := len_R_le hw hr.head
    rw [made_cons, List.length_cons]
    omega
theorem made_L (hw : S.ok w) (hs : s < S.m) (hr : Wd S r) : S.L (made S w r) s = made S (S.L w s) r := by
  induction r generalizing w with
  | nil => rfl
  | cons t r ih => rw [made_cons, made_cons, ih (S.ok_R hw hr.head) hr.tail, S.LR hw hs hr.head]
theorem made_front (hs : s < S.m) (hr : Wd S r) : made S S.e (s :: r) = S.L (made S S.e r) s := by
  rw [made_cons, made_L S.ok_e hs hr, S.L_e hs]
theorem made_inv (hr : Wd S r) : S.inv (made S S.e r) = made S S.e r.reverse := by
  have key : ∀ q : List Nat, Wd S q → S.inv (made S S.e q.reverse) = made S S.e q := by
    intro q
    induction q with
    | nil => intro _; exact S.inv_e
    | cons s q ih =>
      intro hq
      rw [List.reverse_cons, made_snoc, S.inv_R (made_ok S.ok_e hq.tail.rev) hq.head, ih hq.tail, made_front hq.head hq.tail]
  have h := key r.reverse hr.rev
  rw [List.reverse_reverse] at h
  exact h

/-- r is a least row that makes w -/
inductive Red (S : Sys W) : List Nat → W → Prop
  | nil : Red S [] S.e
  | snoc {r : List Nat} {w : W} {s : Nat} : Red S r w → s < S.m → S.fall w s = false → Red S (r ++ [s]) (S.R w s)
theorem Red.wd (h : Red S r w) : Wd S r := by
  induction h with
  | nil => exact Wd.nil S
  | snoc _ hs _ ih => exact ih.app (Wd.one hs)
theorem Red.ok (h : Red S r w) : S.ok w := by
  induction h with
  | nil => exact S.ok_e
  | snoc _ hs _ ih => exact S.ok_R ih hs
theorem Red.made (h : Red S r w) : made S S.e r = w := by
  induction h with
  | nil => rfl
  | snoc _ hs _ ih => rw [made_snoc, ih]
theorem Red.len (h : Red S r w) : S.len w = r.length := by
  induction h with
  | nil => exact S.len_e
  | snoc h hs hf ih => rw [S.len_up h.ok hs hf, ih, List.length_append]; rfl
/-- a fall taken off -/
theorem Red.step (hw : S.ok w) (hs : s < S.m) (hf : S.fall w s = true) (h : Red S r (S.R w s)) : Red S (r ++ [s]) w := by
  have h1 : S.fall (S.R w s) s = false := by rw [S.fall_R hw hs, hf]; rfl
  have h2 := Red.snoc h hs h1
  rw [S.RR hw hs] at h2
  exact h2
theorem some_fall (hw : S.ok w) (h : w ≠ S.e) : ∃ s, s < S.m ∧ S.fall w s = true := by
  by_cases g : ∀ s, s < S.m → S.fall w s = false
  · exact absurd (S.no_fall hw g) h
  · obtain ⟨s, g⟩ := Classical.not_forall.mp g
    have g1 : s < S.m := Classical.byContradiction fun z => g fun y => absurd y z
    refine ⟨s, g1, ?_⟩
    cases z : S.fall w s with
    | true => rfl
    | false => exact (g fun _ => z).elim
theorem red_some : ∀ (n : Nat) (w : W), S.ok w → S.len w = n → ∃ r, Red S r w
  | n, w, hw, hn => by
    by_cases he : w = S.e
    · exact ⟨[], he ▸ Red.nil⟩
    · obtain ⟨s, hs, hf⟩ := some_fall hw he
      have h1 := S.len_down hw hs hf
      obtain ⟨r, hr⟩ := red_some (n - 1) (S.R w s) (S.ok_R hw hs) (by omega)
      exact ⟨r ++ [s], Red.step hw hs hf hr⟩
  termination_by n => n
  decreasing_by omega
theorem red_ex (hw : S.ok w) : ∃ r, Red S r w := red_some _ w hw rfl
theorem len_zero (hw : S.ok w) (h : S.len w = 0) : w = S.e := by
  obtain ⟨r, hr⟩ := red_ex hw
  have h1 := hr.len
  have h2 : r = [] := List.eq_nil_of_length_eq_zero (by omega)
  rw [← hr.made, h2]
  rfl
theorem len_inv_le (hw : S.ok w) : S.len (S.inv w) ≤ S.len w := by
  obtain ⟨r, hr⟩ := red_ex hw
  have h1 : S.len (S.inv w) ≤ S.len S.e + r.reverse.length := by
    rw [← hr.made, made_inv hr.wd]
    exact made_len S.ok_e hr.wd.rev
  rw [S.len_e, List.length_reverse] at h1
  have h2 := hr.len
  omega
theorem len_inv (hw : S.ok w) : S.len (S.inv w) = S.len w := by
  have h1 := len_inv_le hw
  have h2 := len_inv_le (S.ok_inv hw)
  rw [S.inv_inv hw] at h2
  omega
/-- a head: a fall of the opposite -/
def head (S : Sys W) (w : W) (s : Nat) : Bool := S.fall (S.inv w) s
theorem head_L (hw : S.ok w) (hs : s < S.m) : head S (S.L w s) s = !head S w s := by
  unfold head
  rw [S.inv_L hw hs, S.fall_R (S.ok_inv hw) hs]
theorem len_L_up (hw : S.ok w) (hs : s < S.m) (h : head S w s = false) : S.len (S.L w s) = S.len w + 1 := by
  rw [← len_inv (S.ok_L hw hs), S.inv_L hw hs, S.len_up (S.ok_inv hw) hs h, len_inv hw]
theorem len_L_down (hw : S.ok w) (hs : s < S.m) (h : head S w s = true) : S.len (S.L w s) + 1 = S.len w := by
  rw [← len_inv (S.ok_L hw hs), S.inv_L hw hs, S.len_down (S.ok_inv hw) hs h, len_inv hw]
theorem some_head (hw : S.ok w) (h : w ≠ S.e) : ∃ s, s < S.m ∧ head S w s = true := by
  refine some_fall (S.ok_inv hw) fun z => h ?_
  rw [← S.inv_inv hw, z, S.inv_e]
/-- the key for heads -/
theorem keyH (hw : S.ok w) (hs : s < S.m) (ht : t < S.m) (h : head S (S.R w t) s ≠ head S w s) : S.L w s = S.R w t := by
  have h1 : S.fall (S.L (S.inv w) t) s ≠ S.fall (S.inv w) s := by
    unfold head at h
    rw [S.inv_R hw ht] at h
    exact h
  have h2 := S.key (S.ok_inv hw) ht hs h1
  have h3 := congrArg S.inv h2
  rw [S.inv_L (S.ok_inv hw) ht, S.inv_R (S.ok_inv hw) hs, S.inv_inv hw] at h3
  exact h3.symm

/-! ### greedy steps -/
def gain (S : Sys W) (w : W) (t : Nat) : W := if S.fall w t = true then w else S.R w t
def gl (S : Sys W) (s : Nat) (w : W) : W := if head S w s = true then w else S.L w s
theorem gain_ok (hw : S.ok w) (ht : t < S.m) : S.ok (gain S w t) := by
  unfold gain
  split
  · exact hw
  · exact S.ok_R hw ht
theorem gl_ok (hw : S.ok w) (hs : s < S.m) : S.ok (gl S s w) := by
  unfold gl
  split
  · exact hw
  · exact S.ok_L hw hs
theorem gain_yes (h : S.fall w t = true) : gain S w t = w := if_pos h
theorem gain_no (h : S.fall w t = false) : gain S w t = S.R w t := if_neg (by rw [h]; exact Bool.false_ne_true)
theorem gl_yes (h : head S w s = true) : gl S s w = w := if_pos h
theorem gl_no (h : head S w s = false) : gl S s w = S.L w s := if_neg (by rw [h]; exact Bool.false_ne_true)
theorem gl_gain (hw : S.ok w) (hs : s < S.m) (ht : t < S.m) : gl S s (gain S w t) = gain S (gl S s w) t := by
  by_cases he : S.L w s = S.R w t
  · cases a : head S w s with
    | true =>
      cases b : S.fall w t with
      | true => rw [gain_yes b, gl_yes a, gain_yes b]
      | false =>
        have h1 := len_L_down hw hs a
        have h2 := S.len_up hw ht b
        rw [he] at h1
        omega
    | false =>
      cases b : S.fall w t with
      | true =>
        have h1 := len_L_up hw hs a
        have h2 := S.len_down hw ht b
        rw [he] at h1
        omega
      | false =>
        have h1 : head S (S.R w t) s = true := by rw [← he, head_L hw hs, a]; rfl
        have h2 : S.fall (S.L w s) t = true := by rw [he, S.fall_R hw ht, b]; rfl
        rw [gain_no b, gl_no a, gl_yes h1, gain_yes h2, he]
  · have h1 : S.fall (S.L w s) t = S.fall w t := Classical.byContradiction fun z => he (S.key hw hs ht z)
    have h2 : head S (S.R w t) s = head S w s := Classical.byContradiction fun z => he (keyH hw hs ht z)
    cases a : head S w s with
    | true =>
      cases b : S.fall w t with
      | true => rw [gain_yes b, gl_yes a, gain_yes b]
      | false =>
        rw [a] at h2
        rw [gain_no b, gl_yes a, gl_yes h2, gain_no b]
    | false =>
      rw [a] at h2
      cases b : S.fall w t with
      | true =>
        rw [b] at h1
        rw [gain_yes b, gl_no a, gain_yes h1]
      | false =>
        rw [b] at h1
        rw [gain_no b, gl_no a, gl_no h2, gain_no h1, S.LR hw hs ht]
/-- what a word makes greedily, from w -/
def gained (S : Sys W) (w : W) (r : List Nat) : W := r.foldl (gain S) w
def gainedL (S : Sys W) (w : W) (r : List Nat) : W := r.foldr (gl S) w
theorem gained_cons : gained S w (s :: r) = gained S (gain S w s) r := rfl
theorem gained_app : gained S w (r ++ q) = gained S (gained S w r) q := List.foldl_append
theorem gained_snoc : gained S w (r ++ [s]) = gain S (gained S w r) s := by rw [gained_app]; rfl
theorem gainedL_cons : gainedL S w (s :: r) = gl S s (gainedL S w r) := rfl
theorem gained_ok (hw : S.ok w) (hr : Wd S r) : S.ok (gained S w r) := by
  induction r generalizing w with
  | nil => exact hw
  | cons s r ih => exact ih (gain_ok hw hr.head) hr.tail
theorem gainedL_ok (hw : S.ok w) (hr : Wd S r) : S.ok (gainedL S w r) := by
  induction r with
  | nil => exact hw
  | cons s r ih => exact gl_ok (ih hr.tail) hr.head
theorem gl_gained (hw : S.ok w) (hs : s < S.m) (hr : Wd S r) : gl S s (gained S w r) = gained S (gl S s w) r := by
  induction r generalizing w with
  | nil => rfl
  | cons t r ih => rw [gained_cons, gained_cons, ih (gain_ok hw hr.head) hr.tail, gl_gain hw hs hr.head]
theorem gainedL_gained (hw : S.ok w) (hq : Wd S q) (hr : Wd S r) : gainedL S (gained S w r) q = gained S (gainedL S w q) r := by
  induction q with
  | nil => rfl
  | cons s q ih => rw [gainedL_cons, gainedL_cons, ih hq.tail, gl_gained (gainedL_ok hw hq.tail) hq.head hr]
/-- D r: the greedy product of a word -/
def D (S : Sys W) (r : List Nat) : W := gained S S.e r
theorem D_ok (hr : Wd S r) : S.ok (D S r) := gained_ok S.ok_e hr
theorem gl_e (hs : s < S.m) : gl S s S.e = gain S S.e s := by
  have h1 : head S S.e s = false := by unfold head; rw [S.inv_e]; exact Sys.fall_e hs
  rw [gl_no h1, gain_no (Sys.fall_e hs), S.L_e hs]
theorem D_cons (hs : s < S.m) (hr : Wd S r) : D S (s :: r) = gl S s (D S r) := by
  show gained S (gain S S.e s) r = gl S s (gained S S.e r)
  rw [gl_gained S.ok_e hs hr, gl_e hs]
theorem D_left (hr : Wd S r) : D S r = gainedL S S.e r := by
  induction r with
  | nil => rfl
  | cons s r ih => rw [D_cons hr.head hr.tail, ih hr.tail, gainedL_cons]
theorem D_app (hq : Wd S q) (hr : Wd S r) : D S (q ++ r) = gained S (D S q) r := gained_app
theorem D_appL (hq : Wd S q) (hr : Wd S r) : D S (q ++ r) = gainedL S (D S r) q := by
  induction q with
  | nil => rfl
  | cons s q ih => rw [List.cons_append, D_cons hq.head (hq.tail.app hr), ih hq.tail, gainedL_cons]
theorem D_eqR {r' : List Nat} (hq : Wd S q) (hr : Wd S r) (hr' : Wd S r') (h : D S r = D S r') : D S (q ++ r) = D S (q ++ r') := by
  rw [D_appL hq hr, D_appL hq hr', h]
theorem D_eqL {q' : List Nat} (hq : Wd S q) (hq' : Wd S q') (hr : Wd S r) (h : D S q = D S q') : D S (q ++ r) = D S (q' ++ r) := by
  rw [D_app hq hr, D_app hq' hr, h]
theorem Red.D (h : Red S r w) : D S r = w := by
  induction h with
  | nil => rfl
  | snoc h hs hf ih =>
    show gained S S.e (_ ++ [_]) = _
    rw [gained_snoc]
    show gain S (CX.D S _) _ = _
    rw [ih, gain_no hf]
theorem inv_gain (hw : S.ok w) (ht : t < S.m) : S.inv (gain S w t) = gl S t (S.inv w) := by
  have h : head S (S.inv w) t = S.fall w t := by unfold head; rw [S.inv_inv hw]
  cases b : S.fall w t with
  | true => rw [gain_yes b, gl_yes (h.trans b)]
  | false => rw [gain_no b, gl_no (h.trans b), S.inv_R hw ht]
theorem D_snoc : D S (r ++ [s]) = gain S (D S r) s := gained_snoc
theorem D_inv (hr : Wd S r) : S.inv (D S r) = D S r.reverse := by
  have key : ∀ q : List Nat, Wd S q → S.inv (D S q.reverse) = D S q := by
    intro q
    induction q with
    | nil => intro _; exact S.inv_e
    | cons s q ih =>
      intro hq
      rw [List.reverse_cons, D_snoc, inv_gain (D_ok hq.tail.rev) hq.head, ih hq.tail, D_cons hq.head hq.tail]
  have h := key r.reverse hr.rev
  rw [List.reverse_reverse] at h
  exact h

/-! ### the greedy product of two orders -/
/-- some least row -/
noncomputable def row (S : Sys W) (w : W) : List Nat := open Classical in if h : S.ok w then (red_ex h).choose else []
theorem row_red (hw : S.ok w) : Red S (row S w) w := by
  unfold row
  rw [dif_pos hw]
  exact (red_ex hw).choose_spec
theorem row_wd (hw : S.ok w) : Wd S (row S w) := (row_red hw).wd
theorem row_D (hw : S.ok w) : D S (row S w) = w := (row_red hw).D
noncomputable def star (S : Sys W) (x y : W) : W := gained S x (row S y)
/-- whichever least row: what the program reckons -/
theorem star_of (hx : S.ok x) (h : Red S r y) : gained S x r = star S x y := by
  unfold star
  have h1 := row_red hx
  rw [← h1.D]
  rw [← D_app h1.wd h.wd, ← D_app h1.wd (row_wd h.ok)]
  exact D_eqR h1.wd h.wd (row_wd h.ok) (h.D.trans (row_D h.ok).symm)
theorem star_D (hq : Wd S q) (hr : Wd S r) : star S (D S q) (D S r) = D S (q ++ r) := by
  unfold star
  have h := row_red (D_ok hr)
  rw [← D_app hq h.wd]
  exact D_eqR hq h.wd hr h.D
theorem star_ok (hx : S.ok x) (hy : S.ok y) : S.ok (star S x y) := gained_ok hx (row_wd hy)
theorem star_e (hx : S.ok x) : star S x S.e = x := (star_of hx Red.nil).symm
theorem e_star (hx : S.ok x) : star S S.e x = x := by
  have h := star_of S.ok_e (row_red hx)
  rw [← h]
  exact row_D hx
theorem star_assoc {z : W} (hx : S.ok x) (hy : S.ok y) (hz : S.ok z) : star S (star S x y) z = star S x (star S y z) := by
  have hx1 := row_wd hx
  have hy1 := row_wd hy
  have hz1 := row_wd hz
  rw [← row_D hx, ← row_D hy, ← row_D hz, star_D hx1 hy1, star_D (hx1.app hy1) hz1, star_D hy1 hz1, star_D hx1 (hy1.app hz1), List.append_assoc]
theorem star_inv (hx : S.ok x) (hy : S.ok y) : S.inv (star S x y) = star S (S.inv y) (S.inv x) := by
  have hx1 := row_wd hx
  have hy1 := row_wd hy
  rw [← row_D hx, ← row_D hy, star_D hx1 hy1, D_inv (hx1.app hy1), D_inv hx1, D_inv hy1, star_D hy1.rev hx1.rev, List.reverse_append]
/-- one step -/
theorem star_R1 (hx : S.ok x) (hs : s < S.m) : star S x (S.R S.e s) = gain S x s := by
  have h : Red S [s] (S.R S.e s) := Red.snoc (r := []) Red.nil hs (Sys.fall_e hs)
  rw [← star_of hx h]
  rfl
theorem star_L1 (hx : S.ok x) (hs : s < S.m) : star S (S.R S.e s) x = gl S s x := by
  have h : Red S [s] (S.R S.e s) := Red.snoc (r := []) Red.nil hs (Sys.fall_e hs)
  have hx1 := row_wd hx
  rw [← row_D hx, ← h.D, star_D (Wd.one hs) hx1]
  exact D_cons hs hx1
theorem ok_1 (hs : s < S.m) : S.ok (S.R S.e s) := S.ok_R S.ok_e hs
theorem gain_star (hx : S.ok x) (hy : S.ok y) (hs : s < S.m) : star S (gain S x s) y = star S x (gl S s y) := by
  rw [← star_R1 hx hs, ← star_L1 hy hs, star_assoc hx (ok_1 hs) hy]
theorem star_gain (hx : S.ok x) (hy : S.ok y) (hs : s < S.m) : star S x (gain S y s) = gain S (star S x y) s := by
  rw [← star_R1 hy hs, ← star_R1 (star_ok hx hy) hs, star_assoc hx hy (ok_1 hs)]
theorem gl_star (hx : S.ok x) (hy : S.ok y) (hs : s < S.m) : star S (gl S s x) y = gl S s (star S x y) := by
  rw [← star_L1 hx hs, ← star_L1 (star_ok hx hy) hs, star_assoc (ok_1 hs) hx hy]
theorem gain_R (hx : S.ok x) (hs : s < S.m) : gain S (S.R x s) s = gain S x s := by
  have h := S.fall_R hx hs
  cases b : S.fall x s with
  | true =>
    rw [b] at h
    rw [gain_yes b, gain_no h, S.RR hx hs]
  | false =>
    rw [b] at h
    rw [gain_no b, gain_yes h]
theorem gl_L (hx : S.ok x) (hs : s < S.m) : gl S s (S.L x s) = gl S s x := by
  have h := head_L hx hs
  cases b : head S x s with
  | true =>
    rw [b] at h
    rw [gl_yes b, gl_no h, Sys.LL hx hs]
  | false =>
    rw [b] at h
    rw [gl_no b, gl_yes h]
/-- an upper deed keeps the greedy product -/
theorem star_up (hx : S.ok x) (hy : S.ok y) (hs : s < S.m) (h : head S y s = true) : star S (S.R x s) y = star S x y := by
  have h1 := gain_star (S.ok_R hx hs) hy hs
  have h2 := gain_star hx hy hs
  rw [gl_yes h] at h1 h2
  rw [← h1, gain_R hx hs, h2]
/-- a lower deed keeps the greedy product -/
theorem star_low (hx : S.ok x) (hy : S.ok y) (hs : s < S.m) (h : S.fall x s = true) : star S x (S.L y s) = star S x y := by
  have h1 := gain_star hx (S.ok_L hy hs) hs
  have h2 := gain_star hx hy hs
  rw [gain_yes h] at h1 h2
  rw [h1, gl_L hy hs, ← h2]
/-! ### lengths of greedy products -/
theorem len_gain_ge (hx : S.ok x) (hs : s < S.m) : S.len x ≤ S.len (gain S x s) := by
  cases b : S.fall x s with
  | true => rw [gain_yes b]; exact Nat.le_refl _
  | false => rw [gain_no b, S.len_up hx hs b]; omega
theorem len_gain_le (hx : S.ok x) (hs : s < S.m) : S.len (gain S x s) ≤ S.len x + 1 := by
  cases b : S.fall x s with
  | true => rw [gain_yes b]; omega
  | false => rw [gain_no b, S.len_up hx hs b]; omega
theorem len_gained_ge (hx : S.ok x) (hr : Wd S r) : S.len x ≤ S.len (gained S x r) := by
  induction r generalizing x with
  | nil => exact Nat.le_refl _
  | cons s r ih => exact Nat.le_trans (len_gain_ge hx hr.head) (ih (gain_ok hx hr.head) hr.tail)
theorem len_gained_le (hx : S.ok x) (hr : Wd S r) : S.len (gained S x r) ≤ S.len x + r.length := by
  induction r generalizing x with
  | nil => exact Nat.le_refl _
  | cons s r ih =>
    have h1 := len_gain_le hx hr.head
    have h2 := ih (gain_ok hx hr.head) hr.tail
    rw [gained_cons, List.length_cons]
    omega
theorem len_star_l (hx : S.ok x) (hy : S.ok y) : S.len x ≤ S.len (star S x y) := len_gained_ge hx (row_wd hy)
theorem len_star_r (hx : S.ok x) (hy : S.ok y) : S.len y ≤ S.len (star S x y) := by
  have h := len_star_l (S.ok_inv hy) (S.ok_inv hx)
  rw [← star_inv hx hy, len_inv hy, len_inv (star_ok hx hy)] at h
  exact h
theorem len_star_le (hx : S.ok x) (hy : S.ok y) : S.len (star S x y) ≤ S.len x + S.len y := by
  have h := len_gained_le hx (row_wd hy)
  rw [← (row_red hy).len] at h
  exact h
/-- a head of the second is a head of the product -/
theorem head_star_r (hx : S.ok x) (hs : s < S.m) (hy : S.ok y) (h : head S x s = true) : head S (star S x y) s = true := by
  have h1 := gl_star hx hy hs
  rw [gl_yes h] at h1
  cases b : head S (star S x y) s with
  | true => rfl
  | false =>
    rw [gl_no b] at h1
    have h2 := len_L_up (star_ok hx hy) hs b
    rw [← h1] at h2
    omega
end
end CX
end
section
set_option Elab.async false
set_option linter.all false
/-! Standings: wholes, deeds, heights, ways. -/
namespace CX
section
variable {W : Type} (S : Sys W) {w x y : W} {s t : Nat} {r q : List Nat} {xs ys zs pre post : List W}

def AllOk (xs : List W) : Prop := ∀ x, x ∈ xs → S.ok x
noncomputable def whole (xs : List W) : W := xs.foldr (star S) S.e
variable {S}
theorem AllOk.nil : AllOk S [] := fun _ h => nomatch h
theorem AllOk.cons (h : S.ok x) (k : AllOk S xs) : AllOk S (x :: xs) := fun t ht => by
  rcases List.mem_cons.mp ht with e | e
  · exact e ▸ h
  · exact k t e
theorem AllOk.head (h : AllOk S (x :: xs)) : S.ok x := h x List.mem_cons_self
theorem AllOk.tail (h : AllOk S (x :: xs)) : AllOk S xs := fun t ht => h t (List.mem_cons_of_mem _ ht)
theorem AllOk.app (h : AllOk S xs) (k : AllOk S ys) : AllOk S (xs ++ ys) := fun t ht => (List.mem_append.mp ht).elim (h t) (k t)
theorem AllOk.left (h : AllOk S (xs ++ ys)) : AllOk S xs := fun t ht => h t (List.mem_append_left _ ht)
theorem AllOk.right (h : AllOk S (xs ++ ys)) : AllOk S ys := fun t ht => h t (List.mem_append_right _ ht)
theorem AllOk.rep (n : Nat) : AllOk S (List.replicate n S.e) := fun t ht => by rw [List.eq_of_mem_replicate ht]; exact S.ok_e
theorem whole_nil : whole S [] = S.e := rfl
theorem whole_cons : whole S (x :: xs) = star S x (whole S xs) := rfl
theorem whole_ok (h : AllOk S xs) : S.ok (whole S xs) := by
  induction xs with
  | nil => exact S.ok_e
  | cons x xs ih => exact star_ok h.head (ih h.tail)
theorem whole_app (h : AllOk S xs) (k : AllOk S ys) : whole S (xs ++ ys) = star S (whole S xs) (whole S ys) := by
  induction xs with
  | nil => exact (e_star (whole_ok k)).symm
  | cons x xs ih =>
    rw [List.cons_append, whole_cons, whole_cons, ih h.tail, star_assoc h.head (whole_ok h.tail) (whole_ok k)]
theorem whole_one (h : S.ok x) : whole S [x] = x := star_e h
theorem whole_rep (n : Nat) : whole S (List.replicate n S.e) = S.e := by
  induction n with
  | zero => rfl
  | succ n ih => rw [List.replicate_succ, whole_cons, ih, star_e S.ok_e]
theorem whole_snoc (h : AllOk S xs) (k : S.ok x) : whole S (xs ++ [x]) = star S (whole S xs) x := by
  rw [whole_app h (AllOk.cons k AllOk.nil), whole_one k]
theorem len_whole_mem (h : AllOk S xs) (hx : x ∈ xs) : S.len x ≤ S.len (whole S xs) := by
  induction xs with
  | nil => exact nomatch hx
  | cons z xs ih =>
    rw [whole_cons]
    rcases List.mem_cons.mp hx with e | e
    · rw [e]; exact len_star_l h.head (whole_ok h.tail)
    · exact Nat.le_trans (ih h.tail e) (len_star_r h.head (whole_ok h.tail))
theorem len_whole_le (c : Nat) (h : AllOk S xs) (hc : ∀ x, x ∈ xs → S.len x ≤ c) : S.len (whole S xs) ≤ c * xs.length := by
  induction xs with
  | nil => rw [whole_nil, S.len_e]; omega
  | cons z xs ih =>
    have h1 := len_star_le h.head (whole_ok h.tail)
    have h2 := ih h.tail fun x hx => hc x (List.mem_cons_of_mem _ hx)
    have h3 := hc z List.mem_cons_self
    rw [whole_cons, List.length_cons, Nat.mul_succ]
    omega
theorem inv_allOk (h : AllOk S xs) : AllOk S (xs.reverse.map S.inv) := fun z hz => by
  obtain ⟨x, hx, rfl⟩ := List.mem_map.mp hz
  exact S.ok_inv (h x (List.mem_reverse.mp hx))
/-- turned about -/
theorem whole_turn (h : AllOk S xs) : whole S (xs.reverse.map S.inv) = S.inv (whole S xs) := by
  induction xs with
  | nil => exact S.inv_e.symm
  | cons x xs ih =>
    have h1 : AllOk S [S.inv x] := AllOk.cons (S.ok_inv h.head) AllOk.nil
    rw [List.reverse_cons, List.map_append, whole_cons, star_inv h.head (whole_ok h.tail), ← ih h.tail]
    show whole S (xs.reverse.map S.inv ++ [S.inv x]) = _
    rw [whole_snoc (inv_allOk h.tail) (S.ok_inv h.head)]

/-! ### deeds -/
structure Deed where
  seam : Nat
  up : Bool
  step : Nat
  deriving DecidableEq
/-- a deed of xs, behind which ys stands -/
inductive Dd (S : Sys W) : List W → Deed → List W → Prop
  | up (pre : List W) (x y : W) (post : List W) (s : Nat) : s < S.m → head S y s = true → Dd S (pre ++ x :: y :: post) ⟨pre.length, true, s⟩ (pre ++ S.R x s :: y :: post)
  | low (pre : List W) (x y : W) (post : List W) (s : Nat) : s < S.m → S.fall x s = true → Dd S (pre ++ x :: y :: post) ⟨pre.length, false, s⟩ (pre ++ x :: S.L y s :: post)
theorem Dd.ok {d : Deed} (h : Dd S xs d ys) (k : AllOk S xs) : AllOk S ys := by
  cases h with
  | up pre x y post s hs hh => exact k.left.app (AllOk.cons (S.ok_R k.right.head hs) k.right.tail)
  | low pre x y post s hs hh => exact k.left.app (AllOk.cons k.right.head (AllOk.cons (S.ok_L k.right.tail.head hs) k.right.tail.tail))
theorem Dd.length {d : Deed} (h : Dd S xs d ys) : ys.length = xs.length := by
  cases h <;> simp
theorem Dd.seam_lt {d : Deed} (h : Dd S xs d ys) : d.seam + 1 < xs.length := by
  cases h <;> simp <;> omega
theorem whole_up (k : AllOk S (x :: y :: post)) (hs : s < S.m) (h : head S y s = true) : whole S (S.R x s :: y :: post) = whole S (x :: y :: post) := by
  rw [whole_cons, whole_cons (x := x)]
  refine star_up k.head (whole_ok k.tail) hs ?_
  exact head_star_r k.tail.head hs (whole_ok k.tail.tail) h
theorem gl_low (k : AllOk S (y :: post)) (hs : s < S.m) : gl S s (whole S (S.L y s :: post)) = gl S s (whole S (y :: post)) := by
  rw [whole_cons, whole_cons, ← gl_star (S.ok_L k.head hs) (whole_ok k.tail) hs, ← gl_star k.head (whole_ok k.tail) hs, gl_L k.head hs]
theorem whole_low (k : AllOk S (x :: y :: post)) (hs : s < S.m) (h : S.fall x s = true) : whole S (x :: S.L y s :: post) = whole S (x :: y :: post) := by
  have k2 : AllOk S (S.L y s :: post) := AllOk.cons (S.ok_L k.tail.head hs) k.tail.tail
  have h1 := gain_star k.head (whole_ok k2) hs
  have h2 := gain_star k.head (whole_ok k.tail) hs
  rw [gain_yes h] at h1 h2
  rw [whole_cons, whole_cons (x := x), h1, gl_low k.tail hs, ← h2]
theorem whole_pre (h : whole S xs = whole S ys) (pre : List W) : whole S (pre ++ xs) = whole S (pre ++ ys) := by
  induction pre with
  | nil => exact h
  | cons x pre ih => rw [List.cons_append, List.cons_append, whole_cons, whole_cons, ih]
theorem Dd.whole {d : Deed} (h : Dd S xs d ys) (k : AllOk S xs) : whole S ys = CX.whole S xs := by
  cases h with
  | up pre x y post s hs hh => exact whole_pre (whole_up k.right hs hh) pre
  | low pre x y post s hs hh => exact whole_pre (whole_low k.right hs hh) pre

/-! ### heights -/
noncomputable def ht (S : Sys W) : List W → Nat
  | [] => 0
  | x :: xs => (S.len (star S x (whole S xs)) - S.len x) + S.len (whole S xs) + ht S xs
theorem ht_pre (h : whole S xs = whole S ys) : ∀ pre : List W, ht S (pre ++ xs) + ht S ys = ht S (pre ++ ys) + ht S xs
  | [] => Nat.add_comm _ _
  | z :: pre => by
    have h1 := ht_pre h pre
    have h2 := whole_pre h pre
    show (S.len (star S z (whole S (pre ++ xs))) - S.len z) + S.len (whole S (pre ++ xs)) + ht S (pre ++ xs) + ht S ys = (S.len (star S z (whole S (pre ++ ys))) - S.len z) + S.len (whole S (pre ++ ys)) + ht S (pre ++ ys) + ht S xs
    rw [h2]
    omega
/-- an upper deed that leads up -/
theorem ht_up (k : AllOk S (pre ++ x :: y :: post)) (hs : s < S.m) (h : head S y s = true) (hf : S.fall x s = false) : ht S (pre ++ S.R x s :: y :: post) + 1 = ht S (pre ++ x :: y :: post) := by
  have e := whole_up k.right hs h
  have h1 := ht_pre e pre
  have h2 := S.len_up k.right.head hs hf
  have h3 := len_star_l (S.ok_R k.right.head hs) (whole_ok k.right.tail)
  have e2 : star S (S.R x s) (whole S (y :: post)) = star S x (whole S (y :: post)) := e
  have h4 : ht S (S.R x s :: y :: post) + 1 = ht S (x :: y :: post) := by
    show (S.len (star S (S.R x s) (whole S (y :: post))) - S.len (S.R x s)) + S.len (whole S (y :: post)) + ht S (y :: post) + 1 = (S.len (star S x (whole S (y :: post))) - S.len x) + S.len (whole S (y :: post)) + ht S (y :: post)
    rw [e2] at h3 ⊢
    omega
  omega
theorem ht_two (v : W) (hv : whole S (y :: post) = v) : ht S (x :: y :: post) = (S.len (star S x v) - S.len x) + S.len v + ((S.len v - S.len y) + S.len (whole S post) + ht S post) := by
  rw [← hv]
  rfl
/-- a lower deed that leads up: the step is no head of the layer, but one of its whole -/
theorem ht_low1 (k : AllOk S (pre ++ x :: y :: post)) (hs : s < S.m) (hf : S.fall x s = true) (h : head S y s = false) (hl : head S (whole S (y :: post)) s = true) :
    ht S (pre ++ x :: S.L y s :: post) + 1 = ht S (pre ++ x :: y :: post) := by
  have e := whole_low k.right hs hf
  have h1 := ht_pre e pre
  have e2 : whole S (S.L y s :: post) = whole S (y :: post) := by
    rw [whole_cons, ← gl_no h, gl_star k.right.tail.head (whole_ok k.right.tail.tail) hs]
    exact gl_yes hl
  have h2 := len_L_up k.right.tail.head hs h
  have h3 := len_star_l (S.ok_L k.right.tail.head hs) (whole_ok k.right.tail.tail)
  rw [← whole_cons, e2] at h3
  have h4 := ht_two (S := S) (x := x) _ e2
  have h5 := ht_two (S := S) (x := x) (y := y) (post := post) _ rfl
  omega
/-- .. the step is a head of the layer, and none of the whole behind -/
theorem ht_low2 (k : AllOk S (pre ++ x :: y :: post)) (hs : s < S.m) (hf : S.fall x s = true) (h : head S y s = true) (hl : head S (whole S (S.L y s :: post)) s = false) :
    ht S (pre ++ x :: S.L y s :: post) + 1 = ht S (pre ++ x :: y :: post) := by
  have e := whole_low k.right hs hf
  have h1 := ht_pre e pre
  have k2 : AllOk S (S.L y s :: post) := AllOk.cons (S.ok_L k.right.tail.head hs) k.right.tail.tail
  have g := gl_low k.right.tail hs
  have hy : head S (whole S (y :: post)) s = true := head_star_r k.right.tail.head hs (whole_ok k.right.tail.tail) h
  rw [gl_no hl, gl_yes hy] at g
  have h6 := len_L_up (whole_ok k2) hs hl
  rw [g] at h6
  have h2 := len_L_down k.right.tail.head hs h
  have h3 := len_star_l (S.ok_L k.right.tail.head hs) (whole_ok k.right.tail.tail)
  have h7 := len_star_l k.right.tail.head (whole_ok k.right.tail.tail)
  rw [← whole_cons] at h3 h7
  have h8 := whole_ok k.right.tail
  have e3 : star S x (whole S (S.L y s :: post)) = star S x (whole S (y :: post)) := e
  have h4 := ht_two (S := S) (x := x) (y := S.L y s) (post := post) _ rfl
  have h5 := ht_two (S := S) (x := x) (y := y) (post := post) _ rfl
  rw [e3] at h4
  omega
theorem ht_rep (n : Nat) : ht S (List.replicate n S.e) = 0 := by
  induction n with
  | zero => rfl
  | succ n ih =>
    rw [List.replicate_succ]
    show (S.len (star S S.e (whole S (List.replicate n S.e))) - S.len S.e) + S.len (whole S (List.replicate n S.e)) + ht S (List.replicate n S.e) = 0
    rw [ih, whole_rep, star_e S.ok_e, S.len_e]
/-- the uppermost standing -/
theorem ht_high (hw : S.ok w) (n : Nat) : ht S (w :: List.replicate n S.e) = 0 := by
  show (S.len (star S w (whole S (List.replicate n S.e))) - S.len w) + S.len (whole S (List.replicate n S.e)) + ht S (List.replicate n S.e) = 0
  rw [ht_rep, whole_rep, star_e hw, S.len_e]
  omega
/-- the lowermost one -/
theorem whole_lowst (hw : S.ok w) (n : Nat) : whole S (List.replicate n S.e ++ [w]) = w := by
  rw [whole_snoc (AllOk.rep n) hw, whole_rep, e_star hw]
theorem whole_highst (hw : S.ok w) (n : Nat) : whole S (w :: List.replicate n S.e) = w := by
  rw [whole_cons, whole_rep, star_e hw]
theorem ht_lowst (hw : S.ok w) (n : Nat) : ht S (List.replicate n S.e ++ [w]) = 2 * n * S.len w := by
  induction n with
  | zero =>
    show (S.len (star S w S.e) - S.len w) + S.len S.e + 0 = _
    rw [star_e hw, S.len_e]
    omega
  | succ n ih =>
    rw [List.replicate_succ, List.cons_append]
    show (S.len (star S S.e (whole S (List.replicate n S.e ++ [w]))) - S.len S.e) + S.len (whole S (List.replicate n S.e ++ [w])) + ht S (List.replicate n S.e ++ [w]) = _
    rw [ih, whole_lowst hw, e_star hw, S.len_e, Nat.mul_add, Nat.add_mul]
    omega
theorem ht_zero (k : AllOk S (x :: xs)) (h : ht S (x :: xs) = 0) : xs = List.replicate xs.length S.e := by
  induction xs generalizing x with
  | nil => rfl
  | cons y xs ih =>
    have h1 : (S.len (star S x (whole S (y :: xs))) - S.len x) + S.len (whole S (y :: xs)) + ht S (y :: xs) = 0 := h
    have h2 := len_whole_mem k.tail (List.mem_cons_self (a := y) (l := xs))
    have h3 : y = S.e := len_zero k.tail.head (by omega)
    have h4 := ih k.tail (by omega)
    rw [List.length_cons, List.replicate_succ, ← h4, h3]

/-! ### ways -/
inductive Leads (S : Sys W) : List W → List Deed → List W → Prop
  | nil (xs : List W) : Leads S xs [] xs
  | snoc {xs ys zs : List W} {ds : List Deed} {d : Deed} : Leads S xs ds ys → Dd S ys d zs → Leads S xs (ds ++ [d]) zs
variable {ds : List Deed} {d : Deed}
theorem Leads.ok (h : Leads S xs ds ys) (k : AllOk S xs) : AllOk S ys := by
  induction h with
  | nil => exact k
  | snoc _ hd ih => exact hd.ok ih
theorem Leads.length (h : Leads S xs ds ys) : ys.length = xs.length := by
  induction h with
  | nil => rfl
  | snoc _ hd ih => rw [hd.length, ih]
theorem Leads.whole (h : Leads S xs ds ys) (k : AllOk S xs) : CX.whole S ys = CX.whole S xs := by
  induction h with
  | nil => rfl
  | snoc h hd ih => rw [hd.whole (h.ok k), ih]
theorem Leads.seam (h : Leads S xs ds ys) : ∀ d, d ∈ ds → d.seam + 1 < xs.length := by
  induction h with
  | nil => intro d hd; exact nomatch hd
  | snoc h hd ih =>
    intro d1 h1
    rcases List.mem_append.mp h1 with h1 | h1
    · exact ih d1 h1
    · rw [List.mem_singleton.mp h1, ← h.length]; exact hd.seam_lt
/-- what the steps of one side at one seam do -/
def sel (i : Nat) (b : Bool) (ds : List Deed) : List Nat := (ds.filter fun d => d.seam == i && d.up == b).map (·.step)
theorem sel_snoc (i : Nat) (b : Bool) (ds : List Deed) (d : Deed) : sel i b (ds ++ [d]) = sel i b ds ++ (if (d.seam == i && d.up == b) = true then [d.step] else []) := by
  unfold sel
  rw [List.filter_append, List.map_append]
  congr 1
  by_cases h : (d.seam == i && d.up == b) = true
  · rw [if_pos h, List.filter_cons, if_pos h]; rfl
  · rw [if_neg h, List.filter_cons, if_neg h]; rfl
theorem take_at (pre : List W) (x : W) (l : List W) : (pre ++ x :: l).take (pre.length + 1) = pre ++ [x] := by
  rw [List.take_append, List.take_of_length_le (by omega), show pre.length + 1 - pre.length = 1 by omega]
  rfl
theorem take_lt {pre : List W} {n : Nat} (h : n ≤ pre.length) (l : List W) : (pre ++ l).take n = pre.take n := by
  rw [List.take_append, show n - pre.length = 0 by omega, List.take_zero, List.append_nil]
theorem take_ge {pre : List W} {n : Nat} (h : pre.length + 2 ≤ n) (x y : W) (l : List W) : (pre ++ x :: y :: l).take n = pre ++ x :: y :: l.take (n - pre.length - 2) := by
  rw [List.take_append, List.take_of_length_le (by omega)]
  obtain ⟨k, hk⟩ : ∃ k, n - pre.length = k + 2 := ⟨n - pre.length - 2, by omega⟩
  rw [hk]
  rfl
theorem drop_at (pre : List W) (x : W) (l : List W) : (pre ++ x :: l).drop (pre.length + 1) = l := by
  rw [List.drop_append, List.drop_of_length_le (by omega), show pre.length + 1 - pre.length = 1 by omega]
  rfl
theorem drop_lt {pre : List W} {n : Nat} (h : n ≤ pre.length) (l : List W) : (pre ++ l).drop n = pre.drop n ++ l := by
  rw [List.drop_append, show n - pre.length = 0 by omega, List.drop_zero]
theorem drop_ge {pre : List W} {n : Nat} (h : pre.length + 2 ≤ n) (x y : W) (l : List W) : (pre ++ x :: y :: l).drop n = l.drop (n - pre.length - 2) := by
  rw [List.drop_append, List.drop_of_length_le (by omega)]
  obtain ⟨k, hk⟩ : ∃ k, n - pre.length = k + 2 := ⟨n - pre.length - 2, by omega⟩
  rw [hk]
  rfl
theorem AllOk.take (h : AllOk S xs) (n : Nat) : AllOk S (xs.take n) := fun x hx => h x (List.mem_of_mem_take hx)
theorem AllOk.drop (h : AllOk S xs) (n : Nat) : AllOk S (xs.drop n) := fun x hx => h x (List.mem_of_mem_drop hx)
theorem gain_cases {a b : W} (ha : S.ok a) (hb : S.ok b) (hs : s < S.m) (h : gain S b s = gain S a s) : b = a ∨ b = S.R a s := by
  unfold gain at h
  split at h
  · split at h
    · exact .inl h
    · exact .inr h
  · split at h
    · right; rw [← h, S.RR hb hs]
    · left; rw [← S.RR hb hs, h, S.RR ha hs]
theorem gl_cases {a b : W} (ha : S.ok a) (hb : S.ok b) (hs : s < S.m) (h : gl S s b = gl S s a) : a = b ∨ a = S.L b s := by
  unfold gl at h
  split at h
  · split at h
    · exact .inl h.symm
    · right; rw [h, Sys.LL ha hs]
  · split at h
    · exact .inr h.symm
    · left; rw [← Sys.LL ha hs, ← h, Sys.LL hb hs]
/-- the whole above a seam: turned by the upper deeds of the seam alone -/
theorem upper_turn (h : Dd S xs d ys) (k : AllOk S xs) (i : Nat) : whole S (ys.take (i + 1)) = whole S (xs.take (i + 1)) ∨ (d.seam = i ∧ d.up = true ∧ whole S (ys.take (i + 1)) = S.R (whole S (xs.take (i + 1))) d.step) := by
  cases h with
  | up pre x y post s hs hh =>
    rcases Nat.lt_trichotomy pre.length i with hi | hi | hi
    · left
      rw [take_ge (by omega), take_ge (by omega)]
      have k2 : AllOk S (x :: y :: post.take (i + 1 - pre.length - 2)) := AllOk.cons k.right.head (AllOk.cons k.right.tail.head (k.right.tail.tail.take _))
      exact whole_pre (whole_up k2 hs hh) pre
    · subst hi
      rw [take_at, take_at, whole_snoc k.left k.right.head, whole_snoc k.left (S.ok_R k.right.head hs)]
      have a1 := star_ok (whole_ok k.left) k.right.head
      have a2 := star_ok (whole_ok k.left) (S.ok_R k.right.head hs)
      have g : gain S (star S (whole S pre) (S.R x s)) s = gain S (star S (whole S pre) x) s := by
        rw [← star_gain (whole_ok k.left) (S.ok_R k.right.head hs) hs, ← star_gain (whole_ok k.left) k.right.head hs, gain_R k.right.head hs]
      rcases gain_cases a1 a2 hs g with z | z
      · exact .inl z
      · exact .inr ⟨rfl, rfl, z⟩
    · left
      rw [take_lt (by omega), take_lt (by omega)]
  | low pre x y post s hs hh =>
    left
    rcases Nat.lt_trichotomy pre.length i with hi | hi | hi
    · rw [take_ge (by omega), take_ge (by omega)]
      have k2 : AllOk S (x :: y :: post.take (i + 1 - pre.length - 2)) := AllOk.cons k.right.head (AllOk.cons k.right.tail.head (k.right.tail.tail.take _))
      exact whole_pre (whole_low k2 hs hh) pre
    · subst hi
      rw [take_at, take_at]
    · rw [take_lt (by omega), take_lt (by omega)]
theorem lower_turn (h : Dd S xs d ys) (k : AllOk S xs) (i : Nat) : whole S (xs.drop (i + 1)) = whole S (ys.drop (i + 1)) ∨ (d.seam = i ∧ d.up = false ∧ whole S (xs.drop (i + 1)) = S.L (whole S (ys.drop (i + 1))) d.step) := by
  cases h with
  | up pre x y post s hs hh =>
    left
    rcases Nat.lt_trichotomy pre.length i with hi | hi | hi
    · rw [drop_ge (by omega), drop_ge (by omega)]
    · subst hi
      rw [drop_at, drop_at]
    · rw [drop_lt (by omega), drop_lt (by omega)]
      exact (whole_pre (whole_up k.right hs hh) _).symm
  | low pre x y post s hs hh =>
    rcases Nat.lt_trichotomy pre.length i with hi | hi | hi
    · left
      rw [drop_ge (by omega), drop_ge (by omega)]
    · subst hi
      rw [drop_at, drop_at]
      have k2 : AllOk S (S.L y s :: post) := AllOk.cons (S.ok_L k.right.tail.head hs) k.right.tail.tail
      rcases gl_cases (whole_ok k.right.tail) (whole_ok k2) hs (gl_low k.right.tail hs) with z | z
      · exact .inl z
      · exact .inr ⟨rfl, rfl, z⟩
    · left
      rw [drop_lt (by omega), drop_lt (by omega)]
      exact (whole_pre (whole_low k.right hs hh) _).symm
theorem Dd.step_lt (h : Dd S xs d ys) : d.step < S.m := by
  cases h with
  | up _ _ _ _ _ hs _ => exact hs
  | low _ _ _ _ _ hs _ => exact hs
/-- along a way the upper whole is multiplied by some of the upper steps -/
theorem upper_way (h : Leads S xs ds ys) (k : AllOk S xs) (i : Nat) : ∃ r : List Nat, r.Sublist (sel i true ds) ∧ Wd S (sel i true ds) ∧ whole S (ys.take (i + 1)) = made S (whole S (xs.take (i + 1))) r := by
  induction h with
  | nil => exact ⟨[], List.Sublist.refl _, Wd.nil S, rfl⟩
  | @snoc ys zs ds d h hd ih =>
    obtain ⟨r, h1, h2, h3⟩ := ih
    rw [sel_snoc]
    have hw : Wd S (sel i true ds ++ (if (d.seam == i && d.up == true) = true then [d.step] else [])) := by
      split
      · exact h2.app (Wd.one hd.step_lt)
      · exact h2.app (Wd.nil S)
    rcases upper_turn hd (h.ok k) i with z | ⟨z1, z2, z3⟩
    · exact ⟨r, h1.trans (List.sublist_append_left _ _), hw, z.trans h3⟩
    · refine ⟨r ++ [d.step], ?_, hw, ?_⟩
      · rw [z1, z2, if_pos (by simp)]
        exact h1.append (List.Sublist.refl _)
      · rw [z3, h3, made_snoc]
theorem lower_way (h : Leads S xs ds ys) (k : AllOk S xs) (i : Nat) : ∃ r : List Nat, r.Sublist (sel i false ds) ∧ Wd S (sel i false ds) ∧ whole S (xs.drop (i + 1)) = r.foldr (fun s w => S.L w s) (whole S (ys.drop (i + 1))) := by
  induction h with
  | nil => exact ⟨[], List.Sublist.refl _, Wd.nil S, rfl⟩
  | @snoc ys zs ds d h hd ih =>
    obtain ⟨r, h1, h2, h3⟩ := ih
    rw [sel_snoc]
    have hw : Wd S (sel i false ds ++ (if (d.seam == i && d.up == false) = true then [d.step] else [])) := by
      split
      · exact h2.app (Wd.one hd.step_lt)
      · exact h2.app (Wd.nil S)
    rcases lower_turn hd (h.ok k) i with z | ⟨z1, z2, z3⟩
    · exact ⟨r, h1.trans (List.sublist_append_left _ _), hw, by rw [h3, z]⟩
    · refine ⟨r ++ [d.step], ?_, hw, ?_⟩
      · rw [z1, z2, if_pos (by simp)]
        exact h1.append (List.Sublist.refl _)
      · rw [h3, z3, List.foldr_append]
        rfl
theorem foldL_made (hr : Wd S r) : r.foldr (fun s w => S.L w s) S.e = made S S.e r := by
  induction r with
  | nil => rfl
  | cons s r ih => rw [List.foldr_cons, ih hr.tail, made_front hr.head hr.tail]
theorem sub_wd (h : r.Sublist q) (k : Wd S q) : Wd S r := fun s hs => k s (h.subset hs)
/-! ### counting -/
def tot (ds : List Deed) : Nat → Nat
  | 0 => 0
  | k + 1 => tot ds k + (sel k true ds).length + (sel k false ds).length
theorem tot_cons (d : Deed) (ds : List Deed) : ∀ k, tot (d :: ds) k = tot ds k + (if d.seam < k then 1 else 0)
  | 0 => rfl
  | k + 1 => by
    have h := tot_cons d ds k
    have e : ∀ b, (sel k b (d :: ds)).length = (sel k b ds).length + (if d.seam = k ∧ d.up = b then 1 else 0) := fun b => by
      unfold sel
      rw [List.filter_cons]
      by_cases c : d.seam = k ∧ d.up = b
      · rw [if_pos c, if_pos (by simp [c.1, c.2])]; simp
      · rw [if_neg c, if_neg (by simpa using c)]; rfl
    show tot (d :: ds) k + (sel k true (d :: ds)).length + (sel k false (d :: ds)).length = tot ds k + (sel k true ds).length + (sel k false ds).length + _
    rw [h, e, e]
    rcases Nat.lt_trichotomy d.seam k with z | z | z
    · rw [if_pos z, if_neg (by omega), if_neg (by omega), if_pos (by omega)]; omega
    · cases u : d.up with
      | true => rw [if_neg (by omega), if_pos ⟨z, rfl⟩, if_neg (fun q => nomatch q.2), if_pos (by omega)]; omega
      | false => rw [if_neg (by omega), if_neg (fun q => nomatch q.2), if_pos ⟨z, rfl⟩, if_pos (by omega)]; omega
    · rw [if_neg (by omega), if_neg (by omega), if_neg (by omega), if_neg (by omega)]; omega
theorem tot_len (k : Nat) : ∀ ds : List Deed, (∀ d, d ∈ ds → d.seam < k) → tot ds k = ds.length
  | [], _ => by
    induction k with
    | zero => rfl
    | succ k ih =>
      show tot [] k + 0 + 0 = 0
      rw [ih fun d h => nomatch h]
      rfl
  | d :: ds, h => by
    rw [tot_cons, tot_len k ds fun d hd => h d (List.mem_cons_of_mem _ hd), if_pos (h d List.mem_cons_self)]
    rfl
theorem tot_ge {c : Nat} : ∀ k : Nat, (∀ i, i < k → ∀ b, c ≤ (sel i b ds).length) → 2 * k * c ≤ tot ds k
  | 0, _ => by simp
  | k + 1, h => by
    have h1 := tot_ge k fun i hi => h i (by omega)
    have h2 := h k (by omega) true
    have h3 := h k (by omega) false
    show 2 * (k + 1) * c ≤ tot ds k + _ + _
    rw [Nat.mul_add, Nat.add_mul]
    omega
theorem tot_eq {c : Nat} : ∀ k : Nat, (∀ i, i < k → ∀ b, c ≤ (sel i b ds).length) → tot ds k = 2 * k * c → ∀ i, i < k → ∀ b, (sel i b ds).length = c
  | 0, _, _ => fun i hi => absurd hi (Nat.not_lt_zero i)
  | k + 1, h, e => fun i hi b => by
    have h1 := tot_ge k fun i hi => h i (by omega)
    have h2 := h k (by omega) true
    have h3 := h k (by omega) false
    have e1 : tot ds k + (sel k true ds).length + (sel k false ds).length = 2 * (k + 1) * c := e
    rw [Nat.mul_add, Nat.add_mul] at e1
    by_cases hk : i = k
    · subst hk
      cases b with
      | true => omega
      | false => omega
    · exact tot_eq k (fun i hi => h i (by omega)) (by omega) i (by omega) b
/-- a way of fewest deeds from the lowermost to the uppermost standing: at each seam, on each side, a least row of the whole -/
theorem way_right (hw : S.ok w) {n : Nat} (h : Leads S (List.replicate n S.e ++ [w]) ds (w :: List.replicate n S.e)) (hl : ds.length = 2 * n * S.len w) (i : Nat) (hi : i < n) (b : Bool) :
    (sel i b ds).length = S.len w ∧ made S S.e (sel i b ds) = w ∧ Wd S (sel i b ds) := by
  have k : AllOk S (List.replicate n S.e ++ [w]) := (AllOk.rep n).app (AllOk.cons hw AllOk.nil)
  have hseam : ∀ d, d ∈ ds → d.seam < n := fun d hd => by
    have := h.seam d hd
    rw [List.length_append, List.length_replicate] at this
    simp at this
    omega
  have up : ∀ j, j < n → ∃ r : List Nat, r.Sublist (sel j true ds) ∧ Wd S (sel j true ds) ∧ w = made S S.e r := fun j hj => by
    obtain ⟨r, h1, h2, h3⟩ := upper_way h k j
    refine ⟨r, h1, h2, ?_⟩
    have e1 : whole S ((List.replicate n S.e ++ [w]).take (j + 1)) = S.e := by
      rw [List.take_append, List.length_replicate, show j + 1 - n = 0 by omega, List.take_zero, List.append_nil, List.take_replicate, whole_rep]
    have e2 : whole S ((w :: List.replicate n S.e).take (j + 1)) = w := by
      rw [List.take_succ_cons, List.take_replicate, whole_highst hw]
    rw [e1, e2] at h3
    exact h3
  have low : ∀ j, j < n → ∃ r : List Nat, r.Sublist (sel j false ds) ∧ Wd S (sel j false ds) ∧ w = made S S.e r := fun j hj => by
    obtain ⟨r, h1, h2, h3⟩ := lower_way h k j
    refine ⟨r, h1, h2, ?_⟩
    have e1 : whole S ((List.replicate n S.e ++ [w]).drop (j + 1)) = w := by
      rw [List.drop_append, List.length_replicate, show j + 1 - n = 0 by omega, List.drop_zero, List.drop_replicate, whole_lowst hw]
    have e2 : whole S ((w :: List.replicate n S.e).drop (j + 1)) = S.e := by
      rw [List.drop_succ_cons, List.drop_replicate, whole_rep]
    rw [e1, e2, foldL_made (sub_wd h1 h2)] at h3
    exact h3
  have both : ∀ j, j < n → ∀ b, ∃ r : List Nat, r.Sublist (sel j b ds) ∧ Wd S (sel j b ds) ∧ w = made S S.e r := fun j hj b => by
    cases b with
    | true => exact up j hj
    | false => exact low j hj
  have least : ∀ r, Wd S r → w = made S S.e r → S.len w ≤ r.length := fun r hr e => by
    have := made_len S.ok_e hr
    rw [← e, S.len_e] at this
    omega
  have ge : ∀ j, j < n → ∀ b, S.len w ≤ (sel j b ds).length := fun j hj b => by
    obtain ⟨r, h1, h2, h3⟩ := both j hj b
    exact Nat.le_trans (least r (sub_wd h1 h2) h3) h1.length_le
  have eq := tot_eq n ge ((tot_len n ds hseam).trans hl)
  obtain ⟨r, h1, h2, h3⟩ := both i hi b
  have l1 := eq i hi b
  have l2 := least r (sub_wd h1 h2) h3
  have e := h1.eq_of_length_le (by omega)
  exact ⟨l1, by rw [← e]; exact h3.symm, h2⟩
end
end CX
end
section
set_option Elab.async false
set_option linter.all false
/-! Orders as lists of ints: plain, mirror, ring. -/
namespace CX
inductive Nm where
  | plain | mirror | ring
  deriving DecidableEq
structure Kd where
  nm : Nm
  n : Nat
  deriving DecidableEq
/-- the sizes that a kind may have -/
def Kd.good (k : Kd) : Prop := match k.nm with
  | .plain => 1 ≤ k.n ∧ k.n ≤ 7
  | .mirror => 1 ≤ k.n ∧ k.n ≤ 5
  | .ring => 2 ≤ k.n ∧ k.n ≤ 5
def Kd.steps (k : Kd) : Nat := match k.nm with
  | .plain => k.n - 1
  | _ => k.n
def Kd.first (k : Kd) : Nat := match k.nm with
  | .mirror => 1
  | _ => 0
def Kd.start (k : Kd) : List Int := (List.range k.n).map fun i => ((i + k.first : Nat) : Int)
def gI (o : List Int) (i : Nat) : Int := o.getD i 0
def sw (o : List Int) (a : Nat) : List Int := (o.set a (gI o (a + 1))).set (a + 1) (gI o a)
def fallK (k : Kd) (o : List Int) (s : Nat) : Bool := match k.nm with
  | .mirror => if s = 0 then decide (gI o 0 < 0) else decide (gI o (s - 1) > gI o s)
  | .ring => if s + 1 = o.length then decide (gI o s > gI o 0 + (o.length : Int)) else decide (gI o s > gI o (s + 1))
  | .plain => decide (gI o s > gI o (s + 1))
def byK (k : Kd) (o : List Int) (s : Nat) : List Int := match k.nm with
  | .mirror => if s = 0 then o.set 0 (-(gI o 0)) else sw o (s - 1)
  | .ring => if s + 1 = o.length then (o.set 0 (gI o s - (o.length : Int))).set s (gI o 0 + (o.length : Int)) else sw o s
  | .plain => sw o s
/-- the item at a place -/
def itK (k : Kd) (o : List Int) (p : Int) : Int := match k.nm with
  | .mirror => gI o (p.natAbs - 1) * (if p > 0 then 1 else -1)
  | _ => gI o (p % (o.length : Int)).toNat + p - p % (o.length : Int)
def prodK (k : Kd) (o q : List Int) : List Int := q.map (itK k o)
def aheadK (k : Kd) (o : List Int) (s : Nat) : List Int := prodK k (byK k k.start s) o
/-- where an item's place stands in the opposite, and what -/
def ixK (k : Kd) (v : Int) : Nat := match k.nm with
  | .mirror => v.natAbs - 1
  | _ => (v % (k.n : Int)).toNat
def vaK (k : Kd) (v : Int) (i : Nat) : Int := match k.nm with
  | .mirror => ((i : Int) + 1) * (if v > 0 then 1 else -1)
  | _ => (i : Int) - (v - v % (k.n : Int))
/-- the opposite's items, one after the other -/
def oppF (k : Kd) : List Int → Nat → List Int → List Int
  | [], _, f => f
  | v :: r, i, f => oppF k r (i + 1) (f.set (ixK k v) (vaK k v i))
def oppK (k : Kd) (o : List Int) : List Int := oppF k o 0 (List.replicate o.length 0)
def absK (k : Kd) (v : Int) : Int := match k.nm with
  | .plain => v
  | .mirror => (v.natAbs : Int)
  | .ring => v % (k.n : Int)
/-- crossings -/
def cbK (k : Kd) (x y : Int) : Nat := match k.nm with
  | .ring => ((y - x) / (k.n : Int)).natAbs
  | .plain => if x > y then 1 else 0
  | .mirror => (if x > y then 1 else 0) + (if x + y < 0 then 1 else 0)
def ownK (k : Kd) (x : Int) : Nat := match k.nm with
  | .mirror => if x < 0 then 1 else 0
  | _ => 0
def crK (k : Kd) : List Int → Nat
  | [] => 0
  | x :: xs => (xs.map (cbK k x)).sum + ownK k x + crK k xs

structure Sh (k : Kd) (o : List Int) : Prop where
  len : o.length = k.n
  perm : (o.map (absK k)).Perm k.start
  sum : k.nm = .ring → o.sum = k.start.sum

/-! ### a step's three forms -/
theorem gI_app (A : List Int) (x : Int) (B : List Int) : gI (A ++ x :: B) A.length = x := by
  unfold gI
  rw [List.getD_eq_getElem?_getD, List.getElem?_append_right (Nat.le_refl _), Nat.sub_self]
  rfl
theorem gI_app1 (A : List Int) (x y : Int) (B : List Int) : gI (A ++ x :: y :: B) (A.length + 1) = y := by
  unfold gI
  rw [List.getD_eq_getElem?_getD, List.getElem?_append_right (by omega), show A.length + 1 - A.length = 1 by omega]
  rfl
theorem set_app (A : List Int) (x z : Int) (B : List Int) : (A ++ x :: B).set A.length z = A ++ z :: B := by
  rw [List.set_append_right _ _ (Nat.le_refl _), Nat.sub_self]
  rfl
theorem set_app1 (A : List Int) (x y z : Int) (B : List Int) : (A ++ x :: y :: B).set (A.length + 1) z = A ++ x :: z :: B := by
  rw [List.set_append_right _ _ (by omega), show A.length + 1 - A.length = 1 by omega]
  rfl
theorem sw_app (A : List Int) (x y : Int) (B : List Int) : sw (A ++ x :: y :: B) A.length = A ++ y :: x :: B := by
  unfold sw
  rw [gI_app, gI_app1, set_app, set_app1]
theorem by_sw {k : Kd} {A : List Int} {x y : Int} {B : List Int} {s : Nat} (hs : s = A.length + k.first) : byK k (A ++ x :: y :: B) s = A ++ y :: x :: B := by
  subst hs
  obtain ⟨nm, n⟩ := k
  cases nm with
  | plain => exact sw_app A x y B
  | mirror =>
    show (if A.length + 1 = 0 then (A ++ x :: y :: B).set 0 (-(gI (A ++ x :: y :: B) 0)) else sw (A ++ x :: y :: B) (A.length + 1 - 1)) = _
    rw [if_neg (by omega), Nat.add_sub_cancel]
    exact sw_app A x y B
  | ring =>
    show (if A.length + 0 + 1 = (A ++ x :: y :: B).length then ((A ++ x :: y :: B).set 0 (gI (A ++ x :: y :: B) (A.length + 0) - ((A ++ x :: y :: B).length : Int))).set (A.length + 0) (gI (A ++ x :: y :: B) 0 + ((A ++ x :: y :: B).length : Int)) else sw (A ++ x :: y :: B) (A.length + 0)) = _
    rw [if_neg (by rw [List.length_append, List.length_cons, List.length_cons]; omega)]
    exact sw_app A x y B
theorem fall_sw {k : Kd} {A : List Int} {x y : Int} {B : List Int} {s : Nat} (hs : s = A.length + k.first) : fallK k (A ++ x :: y :: B) s = decide (x > y) := by
  subst hs
  obtain ⟨nm, n⟩ := k
  cases nm with
  | plain =>
    show decide (gI _ A.length > gI _ (A.length + 1)) = _
    rw [gI_app, gI_app1]
  | mirror =>
    show (if A.length + 1 = 0 then decide (gI (A ++ x :: y :: B) 0 < 0) else decide (gI (A ++ x :: y :: B) (A.length + 1 - 1) > gI (A ++ x :: y :: B) (A.length + 1))) = _
    rw [if_neg (by omega), Nat.add_sub_cancel, gI_app, gI_app1]
  | ring =>
    show (if A.length + 0 + 1 = (A ++ x :: y :: B).length then decide (gI (A ++ x :: y :: B) (A.length + 0) > gI (A ++ x :: y :: B) 0 + ((A ++ x :: y :: B).length : Int)) else decide (gI (A ++ x :: y :: B) (A.length + 0) > gI (A ++ x :: y :: B) (A.length + 0 + 1))) = _
    rw [if_neg (by rw [List.length_append, List.length_cons, List.length_cons]; omega), Nat.add_zero, gI_app, gI_app1]
theorem by_neg {k : Kd} (hk : k.nm = .mirror) (x : Int) (B : List Int) : byK k (x :: B) 0 = -x :: B := by
  obtain ⟨nm, n⟩ := k
  cases hk
  rfl
theorem fall_neg {k : Kd} (hk : k.nm = .mirror) (x : Int) (B : List Int) : fallK k (x :: B) 0 = decide (x < 0) := by
  obtain ⟨nm, n⟩ := k
  cases hk
  rfl
theorem gI_last (x : Int) (M : List Int) (y : Int) : gI (x :: (M ++ [y])) (M.length + 1) = y := gI_app (x :: M) y []
theorem by_wrap {k : Kd} (hk : k.nm = .ring) {x y : Int} {M : List Int} {s : Nat} (hn : M.length + 2 = k.n) (hs : s + 1 = k.n) : byK k (x :: (M ++ [y])) s = (y - (k.n : Int)) :: (M ++ [x + (k.n : Int)]) := by
  obtain ⟨nm, n⟩ := k
  cases hk
  have hn1 : M.length + 2 = n := hn
  have hs1 : s + 1 = n := hs
  subst hn1
  have e : s = M.length + 1 := by omega
  subst e
  have hl : (x :: (M ++ [y])).length = M.length + 2 := by simp
  show (if M.length + 1 + 1 = (x :: (M ++ [y])).length then ((x :: (M ++ [y])).set 0 (gI (x :: (M ++ [y])) (M.length + 1) - ((x :: (M ++ [y])).length : Int))).set (M.length + 1) (gI (x :: (M ++ [y])) 0 + ((x :: (M ++ [y])).length : Int)) else _) = _
  rw [if_pos hl.symm, gI_last, hl]
  show (y - ((M.length + 2 : Nat) : Int)) :: (M ++ [y]).set M.length (x + ((M.length + 2 : Nat) : Int)) = _
  rw [set_app M y _ []]
theorem fall_wrap {k : Kd} (hk : k.nm = .ring) {x y : Int} {M : List Int} {s : Nat} (hn : M.length + 2 = k.n) (hs : s + 1 = k.n) : fallK k (x :: (M ++ [y])) s = decide (y > x + (k.n : Int)) := by
  obtain ⟨nm, n⟩ := k
  cases hk
  have hn1 : M.length + 2 = n := hn
  have hs1 : s + 1 = n := hs
  subst hn1
  have e : s = M.length + 1 := by omega
  subst e
  have hl : (x :: (M ++ [y])).length = M.length + 2 := by simp
  show (if M.length + 1 + 1 = (x :: (M ++ [y])).length then decide (gI (x :: (M ++ [y])) (M.length + 1) > gI (x :: (M ++ [y])) 0 + ((x :: (M ++ [y])).length : Int)) else _) = _
  rw [if_pos hl.symm, gI_last, hl]
  rfl
theorem cut_at : ∀ (o : List Int) (a : Nat), a + 2 ≤ o.length → ∃ A x y B, o = A ++ x :: y :: B ∧ A.length = a
  | x :: y :: r, 0, _ => ⟨[], x, y, r, rfl, rfl⟩
  | x :: r, a + 1, h => by
    obtain ⟨A, u, v, B, e, ha⟩ := cut_at r a (by rw [List.length_cons] at h; omega)
    exact ⟨x :: A, u, v, B, by rw [e]; rfl, by rw [List.length_cons, ha]⟩
  | [], _, h => by simp at h
  | [_], 0, h => by simp at h
theorem cut_ends : ∀ o : List Int, 2 ≤ o.length → ∃ x M y, o = x :: (M ++ [y])
  | x :: r, h => by
    have hr : r ≠ [] := fun e => by subst e; simp at h
    exact ⟨x, r.dropLast, r.getLast hr, by rw [List.dropLast_concat_getLast]⟩
  | [], h => by simp at h
/-- which form a step has, of a list of the kind's size -/
inductive Form (k : Kd) (s : Nat) (o : List Int) : Prop
  | sw (A : List Int) (x y : Int) (B : List Int) : o = A ++ x :: y :: B → s = A.length + k.first → Form k s o
  | neg (x : Int) (B : List Int) : k.nm = .mirror → s = 0 → o = x :: B → Form k s o
  | wrap (x : Int) (M : List Int) (y : Int) : k.nm = .ring → M.length + 2 = k.n → s + 1 = k.n → o = x :: (M ++ [y]) → Form k s o
theorem form_of {k : Kd} (hk : k.good) {s : Nat} (hs : s < k.steps) {o : List Int} (ho : o.length = k.n) : Form k s o := by
  obtain ⟨nm, n⟩ := k
  cases nm with
  | plain =>
    have h1 : s < n - 1 := hs
    have h2 : o.length = n := ho
    obtain ⟨A, x, y, B, e, ha⟩ := cut_at o s (by omega)
    exact .sw A x y B e (by rw [ha]; rfl)
  | mirror =>
    have h1 : s < n := hs
    have h2 : o.length = n := ho
    cases s with
    | zero =>
      cases o with
      | nil => simp at h2; omega
      | cons x B => exact .neg x B rfl rfl rfl
    | succ s =>
      obtain ⟨A, x, y, B, e, ha⟩ := cut_at o s (by omega)
      exact .sw A x y B e (by rw [ha]; rfl)
  | ring =>
    have h1 : s < n := hs
    have h2 : o.length = n := ho
    have h3 : 2 ≤ n ∧ n ≤ 5 := hk
    by_cases hl : s + 1 = n
    · obtain ⟨x, M, y, e⟩ := cut_ends o (by omega)
      refine .wrap x M y rfl ?_ hl e
      rw [e] at h2
      simp at h2
      exact h2
    · obtain ⟨A, x, y, B, e, ha⟩ := cut_at o s (by omega)
      exact .sw A x y B e (by rw [ha]; rfl)
section
variable {k : Kd} {s t : Nat} {o q : List Int}
theorem start_len : k.start.length = k.n := by simp [Kd.start]
theorem by_len (hk : k.good) (hs : s < k.steps) (ho : o.length = k.n) : (byK k o s).length = k.n := by
  rcases form_of hk hs ho with ⟨A, x, y, B, rfl, e⟩ | ⟨x, B, h1, h2, rfl⟩ | ⟨x, M, y, h1, h2, h3, rfl⟩
  · rw [by_sw e, ← ho]; simp
  · subst h2; rw [by_neg h1, ← ho]; simp
  · rw [by_wrap h1 h2 h3, ← ho]; simp
/-- twice the same step -/
theorem by_by (hk : k.good) (hs : s < k.steps) (ho : o.length = k.n) : byK k (byK k o s) s = o := by
  rcases form_of hk hs ho with ⟨A, x, y, B, rfl, e⟩ | ⟨x, B, h1, h2, rfl⟩ | ⟨x, M, y, h1, h2, h3, rfl⟩
  · rw [by_sw e, by_sw e]
  · subst h2; rw [by_neg h1, by_neg h1, Int.neg_neg]
  · rw [by_wrap h1 h2 h3, by_wrap h1 h2 h3, show x + (k.n : Int) - (k.n : Int) = x by omega, show y - (k.n : Int) + (k.n : Int) = y by omega]
/-- what a map must keep -/
structure Eqv (k : Kd) (F : Int → Int) : Prop where
  neg : k.nm = .mirror → ∀ v, v ≠ 0 → F (-v) = -F v
  per : k.nm = .ring → ∀ v, F (v + (k.n : Int)) = F v + (k.n : Int)
theorem by_map {F : Int → Int} (hF : Eqv k F) (hk : k.good) (hs : s < k.steps) (ho : o.length = k.n) (h0 : k.nm = .mirror → ∀ v, v ∈ o → v ≠ 0) : byK k (o.map F) s = (byK k o s).map F := by
  rcases form_of hk hs ho with ⟨A, x, y, B, rfl, e⟩ | ⟨x, B, h1, h2, rfl⟩ | ⟨x, M, y, h1, h2, h3, rfl⟩
  · rw [by_sw e, List.map_append, List.map_cons, List.map_cons, by_sw (by rw [List.length_map]; exact e), List.map_append, List.map_cons, List.map_cons]
  · subst h2
    rw [by_neg h1, List.map_cons, by_neg h1, List.map_cons, hF.neg h1 x (h0 h1 x List.mem_cons_self)]
  · rw [by_wrap h1 h2 h3, List.map_cons, List.map_append, List.map_cons, List.map_nil, by_wrap h1 (by rw [List.length_map]; exact h2) h3, List.map_cons, List.map_append, List.map_cons, List.map_nil, hF.per h1 x]
    have e := hF.per h1 (y - (k.n : Int))
    rw [show y - (k.n : Int) + (k.n : Int) = y by omega] at e
    rw [show F (y - (k.n : Int)) = F y - (k.n : Int) by omega]
theorem start_get {i : Nat} (h : i < k.n) : gI k.start i = ((i + k.first : Nat) : Int) := by
  unfold gI Kd.start
  rw [List.getD_eq_getElem?_getD, List.getElem?_map, List.getElem?_range h]
  rfl
theorem good_pos (hk : k.good) : 0 < k.n := by
  obtain ⟨nm, n⟩ := k
  cases nm <;> (have h : _ ∧ _ := hk; exact Nat.lt_of_lt_of_le (by decide) h.1)
/-- the items of an order at the places of the start -/
theorem prod_start (hk : k.good) (ho : o.length = k.n) : prodK k o k.start = o := by
  have hp := good_pos hk
  apply List.ext_getElem
  · rw [prodK, List.length_map, start_len, ho]
  · intro i h1 h2
    have hi : i < k.n := by rw [ho] at h2; exact h2
    have e1 : gI o i = o[i] := by unfold gI; rw [List.getD_eq_getElem?_getD, List.getElem?_eq_getElem h2]; rfl
    have e2 : (prodK k o k.start)[i] = itK k o ((i + k.first : Nat) : Int) := by
      unfold prodK Kd.start
      simp
    rw [e2, ← e1]
    obtain ⟨nm, n⟩ := k
    cases nm with
    | mirror =>
      show gI o ((((i + 1 : Nat) : Int)).natAbs - 1) * (if ((i + 1 : Nat) : Int) > 0 then 1 else -1) = gI o i
      rw [if_pos (by omega), Int.mul_one]
      congr 1
    | plain =>
      have hi2 : i < n := hi
      have ho2 : o.length = n := ho
      show gI o ((((i + 0 : Nat) : Int)) % (o.length : Int)).toNat + ((i + 0 : Nat) : Int) - ((i + 0 : Nat) : Int) % (o.length : Int) = gI o i
      rw [ho2, Int.emod_eq_of_lt (by omega) (by omega)]
      simp
    | ring =>
      have hi2 : i < n := hi
      have ho2 : o.length = n := ho
      show gI o ((((i + 0 : Nat) : Int)) % (o.length : Int)).toNat + ((i + 0 : Nat) : Int) - ((i + 0 : Nat) : Int) % (o.length : Int) = gI o i
      rw [ho2, Int.emod_eq_of_lt (by omega) (by omega)]
      simp
theorem it_eqv (ho : o.length = k.n) (hp : 0 < k.n) : Eqv k (itK k o) := by
  obtain ⟨nm, n⟩ := k
  have ho2 : o.length = n := ho
  refine ⟨fun h v hv => ?_, fun h v => ?_⟩
  · cases h
    show gI o ((-v).natAbs - 1) * (if -v > 0 then 1 else -1) = -(gI o (v.natAbs - 1) * (if v > 0 then 1 else -1))
    rw [Int.natAbs_neg]
    by_cases c : v > 0
    · rw [if_pos c, if_neg (by omega)]; omega
    · rw [if_neg c, if_pos (by omega)]; omega
  · cases h
    show gI o ((v + (n : Int)) % (o.length : Int)).toNat + (v + (n : Int)) - (v + (n : Int)) % (o.length : Int) = gI o (v % (o.length : Int)).toNat + v - v % (o.length : Int) + (n : Int)
    rw [ho2, Int.add_emod_right]
    omega
/-- ahead_of's map: what a step does to a value -/
def sgK (k : Kd) (s : Nat) (v : Int) : Int := match k.nm with
  | .mirror => if s = 0 then (if v.natAbs = 1 then -v else v) else if v.natAbs = s then (if v > 0 then v + 1 else v - 1) else if v.natAbs = s + 1 then (if v > 0 then v - 1 else v + 1) else v
  | _ => if v % (k.n : Int) = (s : Int) then v + 1 else if v % (k.n : Int) = ((s : Int) + 1) % (k.n : Int) then v - 1 else v
end
end CX
end
section
set_option Elab.async false
set_option linter.all false
/-! Orders as lists: what a step does to the shape, the falls, the crossings. -/
namespace CX
section
variable {k : Kd} {s t : Nat} {o q : List Int}
theorem abs_neg (h : k.nm = .mirror) (x : Int) : absK k (-x) = absK k x := by
  obtain ⟨nm, n⟩ := k
  cases h
  show ((-x).natAbs : Int) = (x.natAbs : Int)
  rw [Int.natAbs_neg]
theorem abs_add (h : k.nm = .ring) (x : Int) : absK k (x + (k.n : Int)) = absK k x := by
  obtain ⟨nm, n⟩ := k
  cases h
  exact Int.add_emod_right x (n : Int)
theorem abs_sub (h : k.nm = .ring) (x : Int) : absK k (x - (k.n : Int)) = absK k x := by
  have e := abs_add h (x - (k.n : Int))
  rw [show x - (k.n : Int) + (k.n : Int) = x by omega] at e
  exact e.symm
theorem perm_ends {α : Type} (x y : α) (M : List α) : (y :: (M ++ [x])).Perm (x :: (M ++ [y])) :=
  ((List.perm_append_singleton x M).cons y).trans ((List.Perm.swap x y M).trans ((List.perm_append_singleton y M).symm.cons x))
theorem by_perm (hk : k.good) (hs : s < k.steps) (ho : o.length = k.n) : ((byK k o s).map (absK k)).Perm (o.map (absK k)) := by
  rcases form_of hk hs ho with ⟨A, x, y, B, rfl, e⟩ | ⟨x, B, h1, h2, rfl⟩ | ⟨x, M, y, h1, h2, h3, rfl⟩
  · rw [by_sw e]
    exact ((List.Perm.swap x y B).append_left A).map _
  · subst h2
    rw [by_neg h1, List.map_cons, List.map_cons, abs_neg h1]
  · rw [by_wrap h1 h2 h3, List.map_cons, List.map_append, List.map_cons, List.map_nil, List.map_cons, List.map_append, List.map_cons, List.map_nil, abs_sub h1, abs_add h1]
    exact perm_ends _ _ _
theorem by_sum (hk : k.good) (hs : s < k.steps) (ho : o.length = k.n) (hr : k.nm = .ring) : (byK k o s).sum = o.sum := by
  rcases form_of hk hs ho with ⟨A, x, y, B, rfl, e⟩ | ⟨x, B, h1, h2, rfl⟩ | ⟨x, M, y, h1, h2, h3, rfl⟩
  · rw [by_sw e, List.sum_append_int, List.sum_append_int, List.sum_cons, List.sum_cons, List.sum_cons, List.sum_cons]
    omega
  · rw [hr] at h1; cases h1
  · rw [by_wrap h1 h2 h3, List.sum_cons, List.sum_cons, List.sum_append_int, List.sum_append_int, List.sum_cons, List.sum_cons, List.sum_nil]
    omega
theorem by_sh (hk : k.good) (hs : s < k.steps) (h : Sh k o) : Sh k (byK k o s) :=
  ⟨by_len hk hs h.len, (by_perm hk hs h.len).trans h.perm, fun hr => (by_sum hk hs h.len hr).trans (h.sum hr)⟩
theorem start_at (i : Nat) (h : i < k.n) : k.start[i]? = some ((i + k.first : Nat) : Int) := by
  unfold Kd.start
  rw [List.getElem?_map, List.getElem?_range h]
  rfl
theorem mem_start {v : Int} : v ∈ k.start ↔ ∃ i : Nat, i < k.n ∧ v = ((i + k.first : Nat) : Int) := by
  unfold Kd.start
  rw [List.mem_map]
  constructor
  · rintro ⟨i, hi, rfl⟩
    exact ⟨i, List.mem_range.mp hi, rfl⟩
  · rintro ⟨i, hi, rfl⟩
    exact ⟨i, List.mem_range.mpr hi, rfl⟩
theorem start_lt : k.start.Pairwise (· < ·) := by
  unfold Kd.start
  rw [List.pairwise_map]
  exact List.pairwise_lt_range.imp fun h => by omega
theorem start_nodup : k.start.Nodup := start_lt.imp fun h => by omega
theorem start_sh (hk : k.good) : Sh k k.start := by
  refine ⟨start_len, ?_, fun _ => rfl⟩
  have e : k.start.map (absK k) = k.start := by
    have h : ∀ v, v ∈ k.start → absK k v = v := fun v hv => by
      obtain ⟨i, hi, rfl⟩ := mem_start.mp hv
      obtain ⟨nm, n⟩ := k
      have hi2 : i < n := hi
      cases nm with
      | plain => rfl
      | mirror => rfl
      | ring =>
        show ((i + 0 : Nat) : Int) % (n : Int) = _
        exact Int.emod_eq_of_lt (by omega) (by show ((i + 0 : Nat) : Int) < n; omega)
    rw [List.map_congr_left h, List.map_id']
  rw [e]
theorem Sh.nodup (h : Sh k o) : (o.map (absK k)).Nodup := start_nodup.perm h.perm.symm
theorem Sh.mem (h : Sh k o) {v : Int} (hv : v ∈ o) : ∃ i : Nat, i < k.n ∧ absK k v = ((i + k.first : Nat) : Int) :=
  mem_start.mp (h.perm.subset (List.mem_map.mpr ⟨v, hv, rfl⟩))
theorem Sh.nz (h : Sh k o) (hm : k.nm = .mirror) {v : Int} (hv : v ∈ o) : v ≠ 0 ∧ v.natAbs ≤ k.n ∧ 1 ≤ v.natAbs := by
  obtain ⟨i, hi, e⟩ := h.mem hv
  obtain ⟨nm, n⟩ := k
  cases hm
  have e2 : (v.natAbs : Int) = ((i + 1 : Nat) : Int) := e
  have hi2 : i < n := hi
  refine ⟨by omega, ?_, by omega⟩
  show v.natAbs ≤ n
  omega
theorem Sh.nz0 (h : Sh k o) : k.nm = .mirror → ∀ v, v ∈ o → v ≠ 0 := fun hm v hv => (h.nz hm hv).1
/-- two neighbours and the others -/
theorem Sh.sw {A : List Int} {x y : Int} {B : List Int} (h : Sh k (A ++ x :: y :: B)) : absK k x ≠ absK k y ∧ (∀ z, z ∈ A ∨ z ∈ B → absK k z ≠ absK k x ∧ absK k z ≠ absK k y) := by
  have h1 := h.nodup
  rw [List.map_append, List.map_cons, List.map_cons, List.nodup_append, List.nodup_cons, List.nodup_cons] at h1
  obtain ⟨h2, ⟨h3, h4, h5⟩, h6⟩ := h1
  refine ⟨fun e => h3 (e ▸ List.mem_cons_self), fun z hz => ?_⟩
  rcases hz with hz | hz
  · have m := List.mem_map_of_mem (f := absK k) hz
    exact ⟨h6 _ m _ List.mem_cons_self, h6 _ m _ (List.mem_cons_of_mem _ List.mem_cons_self)⟩
  · have m := List.mem_map_of_mem (f := absK k) hz
    exact ⟨fun e => h3 (e ▸ List.mem_cons_of_mem _ m), fun e => h4 (e ▸ m)⟩
theorem Sh.neg {x : Int} {B : List Int} (h : Sh k (x :: B)) : ∀ z, z ∈ B → absK k z ≠ absK k x := by
  have h1 := h.nodup
  rw [List.map_cons, List.nodup_cons] at h1
  exact fun z hz e => h1.1 (e ▸ List.mem_map.mpr ⟨z, hz, rfl⟩)
theorem Sh.wrap {x : Int} {M : List Int} {y : Int} (h : Sh k (x :: (M ++ [y]))) : absK k x ≠ absK k y ∧ (∀ z, z ∈ M → absK k z ≠ absK k x ∧ absK k z ≠ absK k y) := by
  have h1 := h.nodup
  rw [List.map_cons, List.map_append, List.map_cons, List.map_nil, List.nodup_cons, List.nodup_append] at h1
  obtain ⟨h2, _, _, h6⟩ := h1
  refine ⟨fun e => h2 (List.mem_append_right _ (e ▸ List.mem_cons_self)), fun z hz => ?_⟩
  have m := List.mem_map_of_mem (f := absK k) hz
  exact ⟨fun e => h2 (List.mem_append_left _ (e ▸ m)), h6 _ m _ List.mem_cons_self⟩
theorem dec_lt (x y : Int) (h : x ≠ y) : decide (y > x) = !decide (x > y) := by
  by_cases c : x > y
  · rw [decide_eq_true c, decide_eq_false (by omega)]; rfl
  · rw [decide_eq_false c, decide_eq_true (by omega)]; rfl
/-- behind a step it is a fall where it was none -/
theorem fall_by (hk : k.good) (hs : s < k.steps) (h : Sh k o) : fallK k (byK k o s) s = !fallK k o s := by
  rcases form_of hk hs h.len with ⟨A, x, y, B, rfl, e⟩ | ⟨x, B, h1, h2, rfl⟩ | ⟨x, M, y, h1, h2, h3, rfl⟩
  · rw [by_sw e, fall_sw e, fall_sw e]
    exact dec_lt x y fun z => h.sw.1 (by rw [z])
  · subst h2
    have nz := h.nz0 h1 x List.mem_cons_self
    rw [by_neg h1, fall_neg h1, fall_neg h1]
    by_cases c : x < 0
    · rw [decide_eq_true c, decide_eq_false (by omega)]; rfl
    · rw [decide_eq_false c, decide_eq_true (by omega)]; rfl
  · rw [by_wrap h1 h2 h3, fall_wrap h1 h2 h3, fall_wrap h1 h2 h3]
    have ne : y ≠ x + (k.n : Int) := fun z => h.wrap.1 (by rw [z, abs_add h1])
    by_cases c : y > x + (k.n : Int)
    · rw [decide_eq_true c, decide_eq_false (by omega)]; rfl
    · rw [decide_eq_false c, decide_eq_true (by omega)]; rfl

/-! ### crossings -/
theorem sum_map_congr {α : Type} {f g : α → Nat} : ∀ {l : List α}, (∀ z, z ∈ l → f z = g z) → (l.map f).sum = (l.map g).sum := fun {l} h => by rw [List.map_congr_left h]
theorem cr_cons (k : Kd) (x : Int) (B : List Int) : crK k (x :: B) = (B.map (cbK k x)).sum + ownK k x + crK k B := rfl
theorem cr_pre {B C : List Int} (hp : B.Perm C) (d : Nat) (h : crK k C = crK k B + d) : ∀ A : List Int, crK k (A ++ C) = crK k (A ++ B) + d
  | [] => h
  | z :: A => by
    have ih := cr_pre hp d h A
    have e : ((A ++ C).map (cbK k z)).sum = ((A ++ B).map (cbK k z)).sum := ((hp.symm.append_left A).map _).sum_nat
    rw [List.cons_append, List.cons_append, cr_cons, cr_cons, e, ih]
    omega
/-- a quotient turned about -/
theorem div_turn {n : Nat} (hn : 2 ≤ n ∧ n ≤ 5) {x y : Int} (h : x % (n : Int) ≠ y % (n : Int)) : (x - y) / (n : Int) = -((y - x) / (n : Int)) - 1 := by
  obtain ⟨h1, h2⟩ := hn
  have hc : n = 2 ∨ n = 3 ∨ n = 4 ∨ n = 5 := by omega
  rcases hc with rfl | rfl | rfl | rfl
  all_goals
    simp only [Int.cast_ofNat_Int] at h ⊢
    omega
theorem add_div (a : Int) {c : Int} (h : c ≠ 0) : (a + c) / c = a / c + 1 := by
  have e := Int.add_mul_ediv_right a 1 h
  rw [Int.one_mul] at e
  exact e
theorem ring_n (hk : k.good) (hr : k.nm = .ring) : 2 ≤ k.n ∧ k.n ≤ 5 := by
  obtain ⟨nm, n⟩ := k
  cases hr
  exact hk
theorem abs_ring (hr : k.nm = .ring) (x : Int) : absK k x = x % (k.n : Int) := by
  obtain ⟨nm, n⟩ := k
  cases hr
  rfl
theorem cb_ring (hr : k.nm = .ring) (x y : Int) : cbK k x y = ((y - x) / (k.n : Int)).natAbs := by
  obtain ⟨nm, n⟩ := k
  cases hr
  rfl
theorem own_ring (hr : k.nm = .ring) (x : Int) : ownK k x = 0 := by
  obtain ⟨nm, n⟩ := k
  cases hr
  rfl
theorem cb_mirror (hr : k.nm = .mirror) (x y : Int) : cbK k x y = (if x > y then 1 else 0) + (if x + y < 0 then 1 else 0) := by
  obtain ⟨nm, n⟩ := k
  cases hr
  rfl
theorem own_mirror (hr : k.nm = .mirror) (x : Int) : ownK k x = if x < 0 then 1 else 0 := by
  obtain ⟨nm, n⟩ := k
  cases hr
  rfl
theorem cb_sw (hk : k.good) {x y : Int} (h : absK k x ≠ absK k y) (c : ¬ x > y) : cbK k y x = cbK k x y + 1 := by
  obtain ⟨nm, n⟩ := k
  cases nm with
  | plain =>
    have h1 : x ≠ y := h
    show (if y > x then 1 else 0) = (if x > y then 1 else 0) + 1
    rw [if_neg c, if_pos (by omega)]
  | mirror =>
    have h1 : x ≠ y := fun z => h (by rw [z])
    show (if y > x then 1 else 0) + (if y + x < 0 then 1 else 0) = (if x > y then 1 else 0) + (if x + y < 0 then 1 else 0) + 1
    rw [if_neg c, if_pos (by omega), Int.add_comm y x]
    omega
  | ring =>
    have h1 : x % (n : Int) ≠ y % (n : Int) := h
    have h2 := div_turn (n := n) hk h1
    show ((x - y) / (n : Int)).natAbs = ((y - x) / (n : Int)).natAbs + 1
    have h3 : 0 ≤ (y - x) / (n : Int) := Int.ediv_nonneg (by omega) (by omega)
    omega
theorem cr_up (hk : k.good) (hs : s < k.steps) (h : Sh k o) (hf : fallK k o s = false) : crK k (byK k o s) = crK k o + 1 := by
  rcases form_of hk hs h.len with ⟨A, x, y, B, rfl, e⟩ | ⟨x, B, h1, h2, rfl⟩ | ⟨x, M, y, h1, h2, h3, rfl⟩
  · rw [fall_sw e] at hf
    have c := of_decide_eq_false hf
    rw [by_sw e]
    refine cr_pre (List.Perm.swap y x B) 1 ?_ A
    rw [cr_cons, cr_cons, cr_cons, cr_cons, List.map_cons, List.map_cons, List.sum_cons, List.sum_cons, cb_sw hk h.sw.1 c]
    omega
  · subst h2
    rw [fall_neg h1] at hf
    have c := of_decide_eq_false hf
    have nz := h.nz0 h1 x List.mem_cons_self
    rw [by_neg h1, cr_cons, cr_cons, own_mirror h1, own_mirror h1, if_neg c, if_pos (by omega)]
    have e : (B.map (cbK k (-x))).sum = (B.map (cbK k x)).sum := sum_map_congr fun z hz => by
      rw [cb_mirror h1, cb_mirror h1]
      by_cases c1 : x > z
      · rw [if_pos c1, if_pos (show -x + z < 0 by omega)]
        by_cases c2 : x + z < 0
        · rw [if_pos c2, if_pos (by omega)]
        · rw [if_neg c2, if_neg (by omega)]
      · rw [if_neg c1, if_neg (show ¬ -x + z < 0 by omega)]
        by_cases c2 : x + z < 0
        · rw [if_pos c2, if_pos (by omega)]
        · rw [if_neg c2, if_neg (by omega)]
    rw [e]
    omega
  · rw [fall_wrap h1 h2 h3] at hf
    have c := of_decide_eq_false hf
    have hn := ring_n hk h1
    obtain ⟨w1, w2⟩ := h.wrap
    rw [abs_ring h1, abs_ring h1] at w1
    have inner : ∀ (u v : Int) (M : List Int), (∀ z, z ∈ M → cbK k z v = cbK k z v) → crK k (M ++ [v]) = crK k M + (M.map fun z => cbK k z v).sum := by
      intro u v M _
      induction M with
      | nil => rw [List.nil_append, cr_cons, own_ring h1]; rfl
      | cons z M ih =>
        have i2 := ih fun z hz => rfl
        rw [List.cons_append, cr_cons, cr_cons, i2, List.map_append, List.sum_append_nat, List.map_cons, List.map_cons, List.sum_cons, List.sum_cons, List.map_nil, List.sum_nil]
        omega
    have e1 : (M.map (cbK k (y - (k.n : Int)))).sum = (M.map fun z => cbK k z y).sum := sum_map_congr fun z hz => by
      have d := (w2 z hz).2
      rw [abs_ring h1, abs_ring h1] at d
      rw [cb_ring h1, cb_ring h1, show z - (y - (k.n : Int)) = z - y + (k.n : Int) by omega, add_div _ (by omega), div_turn hn d]
      omega
    have e2 : (M.map fun z => cbK k z (x + (k.n : Int))).sum = (M.map (cbK k x)).sum := sum_map_congr fun z hz => by
      have d := (w2 z hz).1
      rw [abs_ring h1, abs_ring h1] at d
      rw [cb_ring h1, cb_ring h1, show x + (k.n : Int) - z = x - z + (k.n : Int) by omega, add_div _ (by omega), div_turn hn (fun q => d q.symm)]
      omega
    have e3 : cbK k (y - (k.n : Int)) (x + (k.n : Int)) = cbK k x y + 1 := by
      rw [cb_ring h1, cb_ring h1, show x + (k.n : Int) - (y - (k.n : Int)) = x - y + (k.n : Int) + (k.n : Int) by omega, add_div _ (by omega), add_div _ (by omega), div_turn hn w1]
      have w : y % (k.n : Int) ≠ x % (k.n : Int) := fun q => w1 q.symm
      have c2 : (y - x) / (k.n : Int) ≤ 0 := by
        have h5 : y - x ≤ (k.n : Int) := by omega
        have h6 : y - x ≠ (k.n : Int) := fun q => w (by rw [show y = x + (k.n : Int) by omega, Int.add_emod_right])
        have h7 : (y - x) / (k.n : Int) < 1 := Int.ediv_lt_of_lt_mul (by omega) (by omega)
        omega
      omega
    rw [by_wrap h1 h2 h3, cr_cons, cr_cons, inner x (x + (k.n : Int)) M (fun _ _ => rfl), inner x y M (fun _ _ => rfl), List.map_append, List.map_append, List.sum_append_nat, List.sum_append_nat, e1, e2, own_ring h1, own_ring h1]
    simp only [List.map_cons, List.map_nil, List.sum_cons, List.sum_nil]
    rw [e3]
    omega
theorem cr_start (hk : k.good) : crK k k.start = 0 := by
  have hc : ∀ l : List Int, l.Pairwise (· < ·) → (∀ x, x ∈ l → 0 ≤ x ∧ x < (k.n : Int) + (k.first : Int)) → (k.nm = .ring → ∀ x, x ∈ l → x < (k.n : Int)) → crK k l = 0 := by
    intro l
    induction l with
    | nil => intros; rfl
    | cons x l ih =>
      intro hp hb hr
      have i := ih hp.tail (fun x hx => hb x (List.mem_cons_of_mem _ hx)) (fun r x hx => hr r x (List.mem_cons_of_mem _ hx))
      have b0 := hb x List.mem_cons_self
      have e : (l.map (cbK k x)).sum = (l.map fun _ => 0).sum := sum_map_congr fun z hz => by
        have lt := List.rel_of_pairwise_cons hp hz
        have bz := hb z (List.mem_cons_of_mem _ hz)
        obtain ⟨nm, n⟩ := k
        cases nm with
        | plain =>
          show (if x > z then 1 else 0) = 0
          rw [if_neg (by omega)]
        | mirror =>
          show (if x > z then 1 else 0) + (if x + z < 0 then 1 else 0) = 0
          rw [if_neg (by omega), if_neg (by omega)]
        | ring =>
          have rz := hr rfl z (List.mem_cons_of_mem _ hz)
          show ((z - x) / (n : Int)).natAbs = 0
          rw [Int.ediv_eq_zero_of_lt (by omega) (by have : z < (n : Int) := rz; omega)]
          rfl
      have e0 : ∀ l : List Int, (l.map fun _ => 0).sum = 0 := fun l => by
        induction l with
        | nil => rfl
        | cons a l ih => rw [List.map_cons, List.sum_cons, ih]
      have ow : ownK k x = 0 := by
        obtain ⟨nm, n⟩ := k
        cases nm with
        | plain => rfl
        | mirror =>
          show (if x < 0 then 1 else 0) = 0
          rw [if_neg (by omega)]
        | ring => rfl
      rw [cr_cons, e, e0, i, ow]
  refine hc _ start_lt (fun x hx => ?_) (fun r x hx => ?_)
  · obtain ⟨i, hi, rfl⟩ := mem_start.mp hx
    omega
  · obtain ⟨i, hi, rfl⟩ := mem_start.mp hx
    obtain ⟨nm, n⟩ := k
    cases r
    show ((i + 0 : Nat) : Int) < (n : Int)
    have : i < n := hi
    omega

/-! ### no fall: the start -/
theorem adj_pairwise : ∀ {l : List Int}, (∀ A x y B, l = A ++ x :: y :: B → x < y) → l.Pairwise (· < ·)
  | [], _ => List.Pairwise.nil
  | [_], _ => List.pairwise_singleton _ _
  | x :: y :: r, h => by
    have ih := adj_pairwise (l := y :: r) fun A u v B e => h (x :: A) u v B (by rw [e]; rfl)
    have h1 := h [] x y r rfl
    refine List.Pairwise.cons (fun z hz => ?_) ih
    rcases List.mem_cons.mp hz with e | e
    · rw [e]; exact h1
    · have := List.rel_of_pairwise_cons ih e
      omega
theorem sorted_start {l : List Int} (hp : l.Pairwise (· ≤ ·)) (h : l.Perm k.start) : l = k.start :=
  List.Perm.eq_of_pairwise (fun a b _ _ h1 h2 => by omega) hp (start_lt.imp fun h => by omega) h
theorem sum_run (c : Int) : ∀ (l : List Int) (i : Nat), (∀ j (hj : j < l.length), l[j] = c + ((i + j : Nat) : Int)) → l.sum = ((List.range' i l.length).map fun (j : Nat) => c + (j : Int)).sum
  | [], _, _ => rfl
  | x :: r, i, h => by
    have h0 : x = c + (i : Int) := h 0 (by simp)
    have ih := sum_run c r (i + 1) fun j hj => by
      have := h (j + 1) (by simp; omega)
      rw [show i + 1 + j = i + (j + 1) by omega]
      exact this
    rw [List.sum_cons, List.length_cons, List.range'_succ, List.map_cons, List.sum_cons, ih, h0]
theorem sum_shift (c : Int) : ∀ (l : List Nat), (l.map fun (j : Nat) => c + (j : Int)).sum = c * (l.length : Int) + (l.map fun (j : Nat) => (j : Int)).sum
  | [] => by simp
  | x :: r => by
    rw [List.map_cons, List.map_cons, List.sum_cons, List.sum_cons, sum_shift c r, List.length_cons, Int.natCast_succ, Int.mul_add]
    omega
theorem pw_le {l : List Int} (h : l.Pairwise (· < ·)) {i j : Nat} (hj : j < l.length) (hij : i ≤ j) : l[i] + ((j - i : Nat) : Int) ≤ l[j] := by
  induction j with
  | zero =>
    have : i = 0 := by omega
    subst this
    simp
  | succ j ih =>
    by_cases e : i = j + 1
    · subst e; simp
    · have h1 := ih (by omega) (by omega)
      have h2 := List.pairwise_iff_getElem.mp h j (j + 1) (by omega) hj (by omega)
      omega
theorem no_fall (hk : k.good) (h : Sh k o) (hf : ∀ s, s < k.steps → fallK k o s = false) : o = k.start := by
  have adj : ∀ A x y B, o = A ++ x :: y :: B → x < y := by
    intro A x y B e
    subst e
    have hl := h.len
    rw [List.length_append, List.length_cons, List.length_cons] at hl
    have hs : A.length + k.first < k.steps := by
      obtain ⟨nm, n⟩ := k
      have hl2 : A.length + (B.length + 1 + 1) = n := hl
      cases nm with
      | plain => show A.length + 0 < n - 1; omega
      | mirror => show A.length + 1 < n; omega
      | ring => show A.length + 0 < n; omega
    have h1 := hf _ hs
    rw [fall_sw rfl] at h1
    have h2 := of_decide_eq_false h1
    have h3 : x ≠ y := fun z => h.sw.1 (by rw [z])
    omega
  have pw := adj_pairwise adj
  have hkc : k.nm = .plain ∨ k.nm = .mirror ∨ k.nm = .ring := by
    cases k.nm
    · exact .inl rfl
    · exact .inr (.inl rfl)
    · exact .inr (.inr rfl)
  rcases hkc with hm | hm | hm
  · have e : o.map (absK k) = o := by
      have z : ∀ v, v ∈ o → absK k v = v := fun v _ => by
        obtain ⟨nm, n⟩ := k
        cases hm
        rfl
      rw [List.map_congr_left z, List.map_id']
    have p := h.perm
    rw [e] at p
    exact sorted_start (pw.imp fun h => by omega) p
  · have hn := good_pos hk
    have pos : ∀ v, v ∈ o → 0 < v := by
      cases o with
      | nil => intro v hv; exact nomatch hv
      | cons x B =>
        have hs : 0 < k.steps := by
          obtain ⟨nm, n⟩ := k
          cases hm
          exact hn
        have h1 := hf 0 hs
        rw [fall_neg hm] at h1
        have h2 := of_decide_eq_false h1
        have h3 := h.nz0 hm x List.mem_cons_self
        intro v hv
        rcases List.mem_cons.mp hv with e | e
        · omega
        · have := List.rel_of_pairwise_cons pw e
          omega
    have e : o.map (absK k) = o := by
      have z : ∀ v, v ∈ o → absK k v = v := fun v hv => by
        have p := pos v hv
        obtain ⟨nm, n⟩ := k
        cases hm
        show (v.natAbs : Int) = v
        omega
      rw [List.map_congr_left z, List.map_id']
    have p := h.perm
    rw [e] at p
    exact sorted_start (pw.imp fun h => by omega) p
  · have hn := ring_n hk hm
    obtain ⟨x, M, y, e⟩ := cut_ends o (by rw [h.len]; exact hn.1)
    have hl := h.len
    have hM : M.length + 2 = k.n := by rw [e] at hl; simp at hl; exact hl
    have hs : k.n - 1 < k.steps := by
      obtain ⟨nm, n⟩ := k
      cases hm
      show n - 1 < n
      have : 2 ≤ n := hn.1
      omega
    have h1 := hf (k.n - 1) hs
    rw [e, fall_wrap hm hM (by omega)] at h1
    have h2 := of_decide_eq_false h1
    have sh2 := h
    rw [e] at sh2
    have ne : y ≠ x + (k.n : Int) := fun z => sh2.wrap.1 (by rw [z, abs_add hm])
    have run : ∀ j (hj : j < o.length), o[j] = x + ((0 + j : Nat) : Int) := by
      intro j hj
      have e0 : o[0]'(by omega) = x := by simp [e]
      have e1 : o[k.n - 1]'(by omega) = y := by
        have : k.n - 1 = M.length + 1 := by omega
        simp only [e, this]
        simp
      have a1 := pw_le pw hj (Nat.zero_le j)
      have a2 := pw_le pw (show k.n - 1 < o.length by omega) (show j ≤ k.n - 1 by omega)
      rw [e0] at a1
      rw [e1] at a2
      omega
    have s1 := sum_run x o 0 run
    have s2 := h.sum hm
    have s3 : k.start.sum = ((List.range' 0 o.length).map fun (j : Nat) => (0 : Int) + (j : Int)).sum := by
      rw [h.len, ← List.range_eq_range']
      unfold Kd.start
      congr 1
      apply List.map_congr_left
      intro j _
      obtain ⟨nm, n⟩ := k
      cases hm
      show ((j + 0 : Nat) : Int) = _
      omega
    rw [s2, s3, sum_shift 0, sum_shift x] at s1
    have s4 : x * ((List.range' 0 o.length).length : Int) = 0 := by omega
    rw [List.length_range', h.len] at s4
    have x0 : x = 0 := by
      rcases Int.mul_eq_zero.mp s4 with z | z
      · exact z
      · omega
    apply List.ext_getElem
    · rw [h.len, start_len]
    · intro j g1 g2
      have := run j g1
      have st := start_at (k := k) j (by rw [h.len] at g1; exact g1)
      rw [List.getElem?_eq_getElem g2] at st
      rw [this, Option.some.inj st, x0]
      obtain ⟨nm, n⟩ := k
      cases hm
      show (0 : Int) + ((0 + j : Nat) : Int) = ((j + 0 : Nat) : Int)
      omega
end
end CX
end
section
set_option Elab.async false
set_option linter.all false
/-! Orders as lists: steps ahead, opposites, and the system of a kind. -/
namespace CX
section
variable {k : Kd} {s t : Nat} {o q : List Int}
theorem gI_set (o : List Int) (a i : Nat) (v : Int) (h : a < o.length) : gI (o.set a v) i = if i = a then v else gI o i := by
  unfold gI
  rw [List.getD_eq_getElem?_getD, List.getD_eq_getElem?_getD, List.getElem?_set]
  by_cases c : a = i
  · subst c
    rw [if_pos rfl, if_pos h, if_pos rfl]
    rfl
  · rw [if_neg c, if_neg (fun q => c q.symm)]
theorem gI_sw (o : List Int) (a i : Nat) (h : a + 1 < o.length) : gI (sw o a) i = if i = a + 1 then gI o a else if i = a then gI o (a + 1) else gI o i := by
  unfold sw
  rw [gI_set _ _ _ _ (by rw [List.length_set]; exact h), gI_set _ _ _ _ (by omega)]
/-- a value that may stand in an order -/
def Val (k : Kd) (v : Int) : Prop := match k.nm with
  | .mirror => v ≠ 0 ∧ v.natAbs ≤ k.n
  | .plain => 0 ≤ v ∧ v < (k.n : Int)
  | .ring => True
theorem Sh.val (h : Sh k o) {v : Int} (hv : v ∈ o) : Val k v := by
  obtain ⟨i, hi, e⟩ := h.mem hv
  obtain ⟨nm, n⟩ := k
  have hi2 : i < n := hi
  cases nm with
  | plain =>
    have e2 : v = ((i + 0 : Nat) : Int) := e
    show 0 ≤ v ∧ v < (n : Int)
    omega
  | mirror =>
    have e2 : (v.natAbs : Int) = ((i + 1 : Nat) : Int) := e
    show v ≠ 0 ∧ v.natAbs ≤ n
    omega
  | ring => trivial
/-- the map of a step ahead -/
theorem sg_eq (hk : k.good) (hs : s < k.steps) {v : Int} (hv : Val k v) : itK k (byK k k.start s) v = sgK k s v := by
  have hp := good_pos hk
  have sl := start_len (k := k)
  have gs := fun i h => start_get (k := k) (i := i) h
  have bl := by_len hk hs sl
  obtain ⟨nm, n⟩ := k
  have hp2 : 0 < n := hp
  have sl2 : (Kd.start ⟨nm, n⟩).length = n := sl
  cases nm with
  | plain =>
    have hs2 : s < n - 1 := hs
    have e1 : (v % (n : Int)).toNat < n := by
      have a := Int.emod_nonneg v (show (n : Int) ≠ 0 by omega)
      have b := Int.emod_lt_of_pos v (show (0 : Int) < n by omega)
      omega
    have e0 := Int.emod_nonneg v (show (n : Int) ≠ 0 by omega)
    show gI (sw (Kd.start ⟨.plain, n⟩) s) (v % ((byK ⟨.plain, n⟩ (Kd.start ⟨.plain, n⟩) s).length : Int)).toNat + v - v % ((byK ⟨.plain, n⟩ (Kd.start ⟨.plain, n⟩) s).length : Int) = _
    rw [bl]
    show gI (sw (Kd.start ⟨.plain, n⟩) s) (v % (n : Int)).toNat + v - v % (n : Int) = if v % (n : Int) = (s : Int) then v + 1 else if v % (n : Int) = ((s : Int) + 1) % (n : Int) then v - 1 else v
    rw [gI_sw _ _ _ (by rw [sl2]; omega), gs s (by show s < n; omega), gs (s + 1) (by show s + 1 < n; omega), gs _ e1, show ((s : Int) + 1) % (n : Int) = (s : Int) + 1 from Int.emod_eq_of_lt (by omega) (by omega)]
    show (if (v % (n : Int)).toNat = s + 1 then ((s + 0 : Nat) : Int) else if (v % (n : Int)).toNat = s then ((s + 1 + 0 : Nat) : Int) else (((v % (n : Int)).toNat + 0 : Nat) : Int)) + v - v % (n : Int) = _
    generalize v % (n : Int) = r at *
    split
    · rw [if_neg (by omega), if_pos (by omega)]; omega
    · split
      · rw [if_pos (by omega)]; omega
      · rw [if_neg (by omega), if_neg (by omega)]; omega
  | ring =>
    have hs2 : s < n := hs
    have e1 : (v % (n : Int)).toNat < n := by
      have a := Int.emod_nonneg v (show (n : Int) ≠ 0 by omega)
      have b := Int.emod_lt_of_pos v (show (0 : Int) < n by omega)
      omega
    have e0 := Int.emod_nonneg v (show (n : Int) ≠ 0 by omega)
    have hn : 2 ≤ n ∧ n ≤ 5 := hk
    show gI (byK ⟨.ring, n⟩ (Kd.start ⟨.ring, n⟩) s) (v % ((byK ⟨.ring, n⟩ (Kd.start ⟨.ring, n⟩) s).length : Int)).toNat + v - v % ((byK ⟨.ring, n⟩ (Kd.start ⟨.ring, n⟩) s).length : Int) = _
    rw [bl]
    show gI (if s + 1 = (Kd.start ⟨.ring, n⟩).length then ((Kd.start ⟨.ring, n⟩).set 0 (gI (Kd.start ⟨.ring, n⟩) s - ((Kd.start ⟨.ring, n⟩).length : Int))).set s (gI (Kd.start ⟨.ring, n⟩) 0 + ((Kd.start ⟨.ring, n⟩).length : Int)) else sw (Kd.start ⟨.ring, n⟩) s) (v % (n : Int)).toNat + v - v % (n : Int) = if v % (n : Int) = (s : Int) then v + 1 else if v % (n : Int) = ((s : Int) + 1) % (n : Int) then v - 1 else v
    rw [sl2]
    by_cases c : s + 1 = n
    · rw [if_pos c, gI_set _ _ _ _ (by rw [List.length_set, sl2]; omega), gI_set _ _ _ _ (by rw [sl2]; omega), gs s (by show s < n; omega), gs 0 (by show 0 < n; omega), gs _ e1, show ((s : Int) + 1) % (n : Int) = 0 by rw [show (s : Int) + 1 = (n : Int) by omega]; exact Int.emod_self]
      show (if (v % (n : Int)).toNat = s then ((0 + 0 : Nat) : Int) + (n : Int) else if (v % (n : Int)).toNat = 0 then ((s + 0 : Nat) : Int) - (n : Int) else (((v % (n : Int)).toNat + 0 : Nat) : Int)) + v - v % (n : Int) = _
      generalize v % (n : Int) = r at *
      split
      · rw [if_pos (by omega)]; omega
      · split
        · rw [if_neg (by omega), if_pos (by omega)]; omega
        · rw [if_neg (by omega), if_neg (by omega)]; omega
    · rw [if_neg c, gI_sw _ _ _ (by rw [sl2]; omega), gs s (by show s < n; omega), gs (s + 1) (by show s + 1 < n; omega), gs _ e1, show ((s : Int) + 1) % (n : Int) = (s : Int) + 1 from Int.emod_eq_of_lt (by omega) (by omega)]
      show (if (v % (n : Int)).toNat = s + 1 then ((s + 0 : Nat) : Int) else if (v % (n : Int)).toNat = s then ((s + 1 + 0 : Nat) : Int) else (((v % (n : Int)).toNat + 0 : Nat) : Int)) + v - v % (n : Int) = _
      generalize v % (n : Int) = r at *
      split
      · rw [if_neg (by omega), if_pos (by omega)]; omega
      · split
        · rw [if_pos (by omega)]; omega
        · rw [if_neg (by omega), if_neg (by omega)]; omega
  | mirror =>
    have hs2 : s < n := hs
    have hv2 : v ≠ 0 ∧ v.natAbs ≤ n := hv
    have e1 : v.natAbs - 1 < n := by omega
    show gI (if s = 0 then (Kd.start ⟨.mirror, n⟩).set 0 (-(gI (Kd.start ⟨.mirror, n⟩) 0)) else sw (Kd.start ⟨.mirror, n⟩) (s - 1)) (v.natAbs - 1) * (if v > 0 then 1 else -1) = if s = 0 then (if v.natAbs = 1 then -v else v) else if v.natAbs = s then (if v > 0 then v + 1 else v - 1) else if v.natAbs = s + 1 then (if v > 0 then v - 1 else v + 1) else v
    by_cases c : s = 0
    · rw [if_pos c, if_pos c, gI_set _ _ _ _ (by rw [sl2]; omega), gs 0 hp2, gs _ e1]
      show (if v.natAbs - 1 = 0 then -((0 + 1 : Nat) : Int) else ((v.natAbs - 1 + 1 : Nat) : Int)) * (if v > 0 then 1 else -1) = _
      by_cases c1 : v > 0
      · rw [if_pos c1, Int.mul_one]
        by_cases c2 : v.natAbs = 1
        · rw [if_pos c2, if_pos (by omega)]; omega
        · rw [if_neg c2, if_neg (by omega)]; omega
      · rw [if_neg c1]
        by_cases c2 : v.natAbs = 1
        · rw [if_pos c2, if_pos (by omega)]; omega
        · rw [if_neg c2, if_neg (by omega)]; omega
    · rw [if_neg c, if_neg c, gI_sw _ _ _ (by rw [sl2]; omega), gs (s - 1) (by show s - 1 < n; omega), gs (s - 1 + 1) (by show s - 1 + 1 < n; omega), gs _ e1]
      show (if v.natAbs - 1 = s - 1 + 1 then ((s - 1 + 1 : Nat) : Int) else if v.natAbs - 1 = s - 1 then ((s - 1 + 1 + 1 : Nat) : Int) else ((v.natAbs - 1 + 1 : Nat) : Int)) * (if v > 0 then 1 else -1) = _
      by_cases c1 : v > 0
      · rw [if_pos c1, Int.mul_one, if_pos c1, if_pos c1]
        by_cases c2 : v.natAbs = s
        · rw [if_neg (by omega), if_pos (by omega), if_pos c2]; omega
        · by_cases c3 : v.natAbs = s + 1
          · rw [if_pos (by omega), if_neg c2, if_pos c3]; omega
          · rw [if_neg (by omega), if_neg (by omega), if_neg c2, if_neg c3]; omega
      · rw [if_neg c1, if_neg c1, if_neg c1]
        by_cases c2 : v.natAbs = s
        · rw [if_neg (by omega), if_pos (by omega), if_pos c2]; omega
        · by_cases c3 : v.natAbs = s + 1
          · rw [if_pos (by omega), if_neg c2, if_pos c3]; omega
          · rw [if_neg (by omega), if_neg (by omega), if_neg c2, if_neg c3]; omega

/-! ### what rows make -/
def Okk (k : Kd) (o : List Int) : Prop := ∃ r : List Nat, (∀ s, s ∈ r → s < k.steps) ∧ o = r.foldl (byK k) k.start
theorem Okk.start : Okk k k.start := ⟨[], fun _ h => (nomatch h), rfl⟩
theorem Okk.by (hs : s < k.steps) (h : Okk k o) : Okk k (byK k o s) := by
  obtain ⟨r, hr, rfl⟩ := h
  refine ⟨r ++ [s], fun t ht => ?_, by rw [List.foldl_append]; rfl⟩
  rcases List.mem_append.mp ht with z | z
  · exact hr t z
  · rw [List.mem_singleton.mp z]; exact hs
theorem foldl_sh (hk : k.good) : ∀ (r : List Nat) (o : List Int), (∀ s, s ∈ r → s < k.steps) → Sh k o → Sh k (r.foldl (byK k) o)
  | [], _, _, h => h
  | s :: r, o, hr, h => foldl_sh hk r _ (fun t ht => hr t (List.mem_cons_of_mem _ ht)) (by_sh hk (hr s List.mem_cons_self) h)
theorem Okk.sh (hk : k.good) (h : Okk k o) : Sh k o := by
  obtain ⟨r, hr, rfl⟩ := h
  exact foldl_sh hk r _ hr (start_sh hk)
/-- steps ahead and steps behind go past one another -/
theorem ahead_by (hk : k.good) (hs : s < k.steps) (ht : t < k.steps) (h : Sh k o) : aheadK k (byK k o t) s = byK k (aheadK k o s) t := by
  unfold aheadK prodK
  rw [by_map (it_eqv (by_len hk hs start_len) (good_pos hk)) hk ht h.len h.nz0]
theorem ahead_start (hk : k.good) (hs : s < k.steps) : aheadK k k.start s = byK k k.start s := prod_start hk (by_len hk hs start_len)
theorem ahead_fold (hk : k.good) (hs : s < k.steps) : ∀ (r : List Nat) (o : List Int), (∀ t, t ∈ r → t < k.steps) → Sh k o → aheadK k (r.foldl (byK k) o) s = r.foldl (byK k) (aheadK k o s)
  | [], _, _, _ => rfl
  | t :: r, o, hr, h => by
    have ht := hr t List.mem_cons_self
    rw [List.foldl_cons, List.foldl_cons, ahead_fold hk hs r _ (fun t ht => hr t (List.mem_cons_of_mem _ ht)) (by_sh hk ht h), ahead_by hk hs ht h]
theorem ahead_word (hk : k.good) (hs : s < k.steps) {r : List Nat} (hr : ∀ t, t ∈ r → t < k.steps) : aheadK k (r.foldl (byK k) k.start) s = (s :: r).foldl (byK k) k.start := by
  rw [ahead_fold hk hs r _ hr (start_sh hk), ahead_start hk hs]
  rfl
theorem Okk.ahead (hk : k.good) (hs : s < k.steps) (h : Okk k o) : Okk k (aheadK k o s) := by
  obtain ⟨r, hr, rfl⟩ := h
  refine ⟨s :: r, fun t ht => ?_, ahead_word hk hs hr⟩
  rcases List.mem_cons.mp ht with z | z
  · rw [z]; exact hs
  · exact hr t z
theorem ahead_map (hk : k.good) (hs : s < k.steps) (h : Sh k o) : aheadK k o s = o.map (sgK k s) := List.map_congr_left fun v hv => sg_eq hk hs (h.val hv)

/-! ### the key -/
/-- residues by which items differ -/
theorem res_ne (h : Sh k o) (hm : k.nm ≠ .mirror) {x y : Int} (hx : x ∈ o) (hy : y ∈ o) (ne : absK k x ≠ absK k y) : x % (k.n : Int) ≠ y % (k.n : Int) := by
  have vx := h.val hx
  have vy := h.val hy
  obtain ⟨nm, n⟩ := k
  cases nm with
  | plain =>
    have a : 0 ≤ x ∧ x < (n : Int) := vx
    have b : 0 ≤ y ∧ y < (n : Int) := vy
    show x % (n : Int) ≠ y % (n : Int)
    rw [Int.emod_eq_of_lt a.1 a.2, Int.emod_eq_of_lt b.1 b.2]
    exact ne
  | mirror => exact absurd rfl hm
  | ring => exact ne
theorem sg_flat (hm : k.nm ≠ .mirror) (s : Nat) (v : Int) : sgK k s v = if v % (k.n : Int) = (s : Int) then v + 1 else if v % (k.n : Int) = ((s : Int) + 1) % (k.n : Int) then v - 1 else v := by
  obtain ⟨nm, n⟩ := k
  cases nm with
  | plain => rfl
  | mirror => exact absurd rfl hm
  | ring => rfl
theorem sg_mirror (hm : k.nm = .mirror) (s : Nat) (v : Int) : sgK k s v = if s = 0 then (if v.natAbs = 1 then -v else v) else if v.natAbs = s then (if v > 0 then v + 1 else v - 1) else if v.natAbs = s + 1 then (if v > 0 then v - 1 else v + 1) else v := by
  obtain ⟨nm, n⟩ := k
  cases hm
  rfl
/-- two values that a step ahead turns about; the others stay -/
theorem sg_pair (hm : k.nm ≠ .mirror) {x y : Int} (hxy : x ≠ y) (hne : sgK k s x ≠ sgK k s y) (h : decide (sgK k s x > sgK k s y) ≠ decide (x > y)) :
    sgK k s x = y ∧ sgK k s y = x ∧ ∀ z : Int, z % (k.n : Int) ≠ x % (k.n : Int) → z % (k.n : Int) ≠ y % (k.n : Int) → sgK k s z = z := by
  have h1 : ¬ (sgK k s x > sgK k s y ↔ x > y) := fun e => h (by simp only [e])
  rw [sg_flat hm, sg_flat hm] at *
  simp only [sg_flat hm]
  generalize x % (k.n : Int) = a at *
  generalize y % (k.n : Int) = b at *
  generalize ((s : Int) + 1) % (k.n : Int) = c at *
  by_cases a1 : a = (s : Int)
  · rw [if_pos a1] at *
    by_cases b1 : b = (s : Int)
    · rw [if_pos b1] at *; omega
    · rw [if_neg b1] at *
      by_cases b2 : b = c
      · rw [if_pos b2] at *
        refine ⟨by omega, by omega, fun z h2 h3 => ?_⟩
        rw [if_neg (by rw [← a1]; exact h2), if_neg (by rw [← b2]; exact h3)]
      · rw [if_neg b2] at *; omega
  · rw [if_neg a1] at *
    by_cases a2 : a = c
    · rw [if_pos a2] at *
      by_cases b1 : b = (s : Int)
      · rw [if_pos b1] at *
        refine ⟨by omega, by omega, fun z h2 h3 => ?_⟩
        rw [if_neg (by rw [← b1]; exact h3), if_neg (by rw [← a2]; exact h2)]
      · rw [if_neg b1] at *
        by_cases b2 : b = c
        · rw [if_pos b2] at *; omega
        · rw [if_neg b2] at *; omega
    · rw [if_neg a2] at *
      by_cases b1 : b = (s : Int)
      · rw [if_pos b1] at *; omega
      · rw [if_neg b1] at *
        by_cases b2 : b = c
        · rw [if_pos b2] at *; omega
        · rw [if_neg b2] at *; omega
theorem sg_pairM (hm : k.nm = .mirror) {x y : Int} (hx : x ≠ 0) (hy : y ≠ 0) (hxy : x.natAbs ≠ y.natAbs) (hne : sgK k s x ≠ sgK k s y) (h : decide (sgK k s x > sgK k s y) ≠ decide (x > y)) :
    sgK k s x = y ∧ sgK k s y = x ∧ ∀ z : Int, z.natAbs ≠ x.natAbs → z.natAbs ≠ y.natAbs → sgK k s z = z := by
  have h1 : ¬ (sgK k s x > sgK k s y ↔ x > y) := fun e => h (by simp only [e])
  simp only [sg_mirror hm] at *
  by_cases c : s = 0
  · simp only [if_pos c] at *
    exfalso
    split at h1 <;> split at h1 <;> omega
  · simp only [if_neg c] at *
    by_cases a1 : x.natAbs = s
    · simp only [if_pos a1] at *
      by_cases b1 : y.natAbs = s
      · omega
      · simp only [if_neg b1] at *
        by_cases b2 : y.natAbs = s + 1
        · simp only [if_pos b2] at *
          have e1 : (if x > 0 then x + 1 else x - 1) = y ∧ (if y > 0 then y - 1 else y + 1) = x := by
            by_cases p1 : x > 0 <;> by_cases p2 : y > 0 <;> simp only [if_pos, if_neg, p1, p2, if_true, if_false, reduceIte] at * <;> omega
          refine ⟨e1.1, e1.2, fun z h2 h3 => ?_⟩
          rw [if_neg (by omega), if_neg (by omega)]
        · simp only [if_neg b2] at *
          exfalso
          by_cases p1 : x > 0 <;> simp only [if_pos, if_neg, p1, reduceIte] at * <;> omega
    · simp only [if_neg a1] at *
      by_cases a2 : x.natAbs = s + 1
      · simp only [if_pos a2] at *
        by_cases b1 : y.natAbs = s
        · simp only [if_pos b1] at *
          have e1 : (if x > 0 then x - 1 else x + 1) = y ∧ (if y > 0 then y + 1 else y - 1) = x := by
            by_cases p1 : x > 0 <;> by_cases p2 : y > 0 <;> simp only [if_pos, if_neg, p1, p2, if_true, if_false, reduceIte] at * <;> omega
          refine ⟨e1.1, e1.2, fun z h2 h3 => ?_⟩
          rw [if_neg (by omega), if_neg (by omega)]
        · simp only [if_neg b1] at *
          by_cases b2 : y.natAbs = s + 1
          · omega
          · simp only [if_neg b2] at *
            exfalso
            by_cases p1 : x > 0 <;> simp only [if_pos, if_neg, p1, reduceIte] at * <;> omega
      · simp only [if_neg a2] at *
        by_cases b1 : y.natAbs = s
        · simp only [if_pos b1] at *
          exfalso
          by_cases p1 : y > 0 <;> simp only [if_pos, if_neg, p1, reduceIte] at * <;> omega
        · simp only [if_neg b1] at *
          by_cases b2 : y.natAbs = s + 1
          · simp only [if_pos b2] at *
            exfalso
            by_cases p1 : y > 0 <;> simp only [if_pos, if_neg, p1, reduceIte] at * <;> omega
          · simp only [if_neg b2] at *
            exact (h1 trivial).elim
theorem sg_negM (hm : k.nm = .mirror) {x : Int} (hx : x ≠ 0) (h : decide (sgK k s x < 0) ≠ decide (x < 0)) : sgK k s x = -x ∧ ∀ z : Int, z.natAbs ≠ x.natAbs → sgK k s z = z := by
  have h1 : ¬ (sgK k s x < 0 ↔ x < 0) := fun e => h (by simp only [e])
  simp only [sg_mirror hm] at *
  by_cases c : s = 0
  · simp only [if_pos c] at *
    by_cases a1 : x.natAbs = 1
    · simp only [if_pos a1] at *
      refine ⟨trivial, fun z h2 => ?_⟩
      rw [if_neg (by omega)]
    · simp only [if_neg a1] at *
      exact (h1 trivial).elim
  · simp only [if_neg c] at *
    exfalso
    split at h1
    · split at h1 <;> omega
    · split at h1
      · split at h1 <;> omega
      · omega
theorem map_id_of {F : Int → Int} : ∀ {l : List Int}, (∀ z, z ∈ l → F z = z) → l.map F = l := fun {l} h => by rw [List.map_congr_left h, List.map_id']
theorem key_of (hk : k.good) (hs : s < k.steps) (ht : t < k.steps) (ho : Okk k o) (hf : fallK k (aheadK k o s) t ≠ fallK k o t) : aheadK k o s = byK k o t := by
  have h := ho.sh hk
  have ha := (ho.ahead hk hs).sh hk
  have hkc : k.nm ≠ .mirror ∨ k.nm = .mirror := by
    cases k.nm
    · exact .inl (fun q => nomatch q)
    · exact .inr rfl
    · exact .inl (fun q => nomatch q)
  rw [ahead_map hk hs h] at hf ha ⊢
  rcases form_of hk ht h.len with ⟨A, x, y, B, rfl, e⟩ | ⟨x, B, h1, h2, rfl⟩ | ⟨x, M, y, h1, h2, h3, rfl⟩
  · have mx : x ∈ A ++ x :: y :: B := by simp
    have my : y ∈ A ++ x :: y :: B := by simp
    rw [by_sw e]
    rw [List.map_append, List.map_cons, List.map_cons] at hf ha ⊢
    rw [fall_sw (by rw [List.length_map]; exact e), fall_sw e] at hf
    have ne2 : sgK k s x ≠ sgK k s y := fun z => ha.sw.1 (by rw [z])
    rcases hkc with hm | hm
    · obtain ⟨g1, g2, g3⟩ := sg_pair hm (fun z => h.sw.1 (by rw [z])) ne2 hf
      rw [g1, g2, map_id_of fun z hz => g3 z (res_ne h hm (by simp [hz]) mx (h.sw.2 z (.inl hz)).1) (res_ne h hm (by simp [hz]) my (h.sw.2 z (.inl hz)).2),
        map_id_of fun z hz => g3 z (res_ne h hm (by simp [hz]) mx (h.sw.2 z (.inr hz)).1) (res_ne h hm (by simp [hz]) my (h.sw.2 z (.inr hz)).2)]
    · have am : ∀ u v : Int, absK k u ≠ absK k v → u.natAbs ≠ v.natAbs := fun u v q z => q (by
        obtain ⟨nm, n⟩ := k
        cases hm
        show (u.natAbs : Int) = (v.natAbs : Int)
        rw [z])
      obtain ⟨g1, g2, g3⟩ := sg_pairM hm (h.nz0 hm x mx) (h.nz0 hm y my) (am _ _ h.sw.1) ne2 hf
      rw [g1, g2, map_id_of fun z hz => g3 z (am _ _ (h.sw.2 z (.inl hz)).1) (am _ _ (h.sw.2 z (.inl hz)).2), map_id_of fun z hz => g3 z (am _ _ (h.sw.2 z (.inr hz)).1) (am _ _ (h.sw.2 z (.inr hz)).2)]
  · subst h2
    rw [by_neg h1]
    rw [List.map_cons] at hf ⊢
    rw [fall_neg h1, fall_neg h1] at hf
    have am : ∀ u v : Int, absK k u ≠ absK k v → u.natAbs ≠ v.natAbs := fun u v q z => q (by
      obtain ⟨nm, n⟩ := k
      cases h1
      show (u.natAbs : Int) = (v.natAbs : Int)
      rw [z])
    obtain ⟨g1, g2⟩ := sg_negM h1 (h.nz0 h1 x List.mem_cons_self) hf
    rw [g1, map_id_of fun z hz => g2 z (am _ _ (h.neg z hz))]
  · have hm : k.nm ≠ .mirror := fun q => by rw [h1] at q; cases q
    have mx : x ∈ x :: (M ++ [y]) := by simp
    have my : y ∈ x :: (M ++ [y]) := by simp
    rw [by_wrap h1 h2 h3]
    rw [List.map_cons, List.map_append, List.map_cons, List.map_nil] at hf ha ⊢
    rw [fall_wrap h1 (by rw [List.length_map]; exact h2) h3, fall_wrap h1 h2 h3] at hf
    have per : sgK k s (x + (k.n : Int)) = sgK k s x + (k.n : Int) := by
      rw [sg_flat hm, sg_flat hm, Int.add_emod_right]
      split
      · omega
      · split <;> omega
    rw [← per] at hf
    have ne1 : y ≠ x + (k.n : Int) := fun z => h.wrap.1 (by rw [z, abs_add h1])
    have ne2 : sgK k s y ≠ sgK k s (x + (k.n : Int)) := fun z => ha.wrap.1 (by rw [z, per, abs_add h1])
    obtain ⟨g1, g2, g3⟩ := sg_pair hm ne1 ne2 hf
    rw [per] at g2
    rw [show sgK k s x = y - (k.n : Int) by omega, g1]
    have g4 : ∀ z, z ∈ M → sgK k s z = z := fun z hz => by
      refine g3 z ?_ ?_
      · exact res_ne h hm (by simp [hz]) my (h.wrap.2 z hz).2
      · rw [Int.add_emod_right]
        exact res_ne h hm (by simp [hz]) mx (h.wrap.2 z hz).1
    rw [map_id_of g4]
end
end CX
end
section
set_option Elab.async false
set_option linter.all false
/-! Orders as lists: opposites; the system of a kind. -/
namespace CX
section
variable {k : Kd} {s t : Nat} {o q p : List Int}
theorem ix_abs {v : Int} (hp : 0 < k.n) (hv : Val k v) : ((ixK k v + k.first : Nat) : Int) = absK k v := by
  obtain ⟨nm, n⟩ := k
  have hp2 : 0 < n := hp
  cases nm with
  | plain =>
    have hv2 : 0 ≤ v ∧ v < (n : Int) := hv
    show (((v % (n : Int)).toNat + 0 : Nat) : Int) = v
    rw [Int.emod_eq_of_lt hv2.1 hv2.2]
    omega
  | mirror =>
    have hv2 : v ≠ 0 ∧ v.natAbs ≤ n := hv
    show ((v.natAbs - 1 + 1 : Nat) : Int) = (v.natAbs : Int)
    omega
  | ring =>
    show (((v % (n : Int)).toNat + 0 : Nat) : Int) = v % (n : Int)
    have := Int.emod_nonneg v (show (n : Int) ≠ 0 by omega)
    omega
theorem Sh.ix_lt (hk : k.good) (h : Sh k o) {v : Int} (hv : v ∈ o) : ixK k v < k.n := by
  obtain ⟨i, hi, e⟩ := h.mem hv
  have := ix_abs (good_pos hk) (h.val hv)
  omega
theorem oppF_len (k : Kd) : ∀ (l : List Int) (i : Nat) (f : List Int), (oppF k l i f).length = f.length
  | [], _, _ => rfl
  | v :: r, i, f => by
    show (oppF k r (i + 1) (f.set (ixK k v) (vaK k v i))).length = _
    rw [oppF_len k r, List.length_set]
theorem opp_len : (oppK k o).length = o.length := by
  unfold oppK
  rw [oppF_len, List.length_replicate]
theorem oppF_out (k : Kd) : ∀ (l : List Int) (i : Nat) (f : List Int) (j : Nat), (∀ v, v ∈ l → ixK k v < f.length) → (∀ v, v ∈ l → ixK k v ≠ j) → gI (oppF k l i f) j = gI f j
  | [], _, _, _, _, _ => rfl
  | v :: r, i, f, j, h1, h2 => by
    show gI (oppF k r (i + 1) (f.set (ixK k v) (vaK k v i))) j = _
    rw [oppF_out k r (i + 1) _ j (fun u hu => by rw [List.length_set]; exact h1 u (List.mem_cons_of_mem _ hu)) (fun u hu => h2 u (List.mem_cons_of_mem _ hu)), gI_set _ _ _ _ (h1 v List.mem_cons_self), if_neg (fun e => h2 v List.mem_cons_self e.symm)]
theorem oppF_in (k : Kd) : ∀ (l : List Int) (i : Nat) (f : List Int), (∀ v, v ∈ l → ixK k v < f.length) → (l.map (ixK k)).Nodup → ∀ (j : Nat) (hj : j < l.length), gI (oppF k l i f) (ixK k l[j]) = vaK k l[j] (i + j)
  | [], _, _, _, _, j, hj => by simp at hj
  | v :: r, i, f, h1, h2, j, hj => by
    show gI (oppF k r (i + 1) (f.set (ixK k v) (vaK k v i))) _ = _
    rw [List.map_cons, List.nodup_cons] at h2
    have h3 : ∀ u, u ∈ r → ixK k u < (f.set (ixK k v) (vaK k v i)).length := fun u hu => by rw [List.length_set]; exact h1 u (List.mem_cons_of_mem _ hu)
    cases j with
    | zero =>
      show gI _ (ixK k v) = vaK k v (i + 0)
      rw [oppF_out k r (i + 1) _ _ h3 (fun u hu e => h2.1 (List.mem_map.mpr ⟨u, hu, e⟩)), gI_set _ _ _ _ (h1 v List.mem_cons_self), if_pos rfl]
      rfl
    | succ j =>
      have hj2 : j < r.length := by simp at hj; exact hj
      have h4 := oppF_in k r (i + 1) _ h3 h2.2 j hj2
      show gI _ (ixK k r[j]) = vaK k r[j] (i + (j + 1))
      rw [h4, show i + 1 + j = i + (j + 1) by omega]
theorem Sh.ix_nodup (hk : k.good) (h : Sh k o) : (o.map (ixK k)).Nodup := by
  have h1 := h.nodup
  have e : o.map (absK k) = (o.map (ixK k)).map fun i => ((i + k.first : Nat) : Int) := by
    rw [List.map_map]
    exact List.map_congr_left fun v hv => (ix_abs (good_pos hk) (h.val hv)).symm
  rw [e] at h1
  exact (List.pairwise_map.mp h1).imp fun z q => z (by rw [q])
theorem Sh.opp_get (hk : k.good) (h : Sh k o) (j : Nat) (hj : j < o.length) : gI (oppK k o) (ixK k o[j]) = vaK k o[j] j := by
  have e := oppF_in k o 0 (List.replicate o.length 0) (fun v hv => by rw [List.length_replicate, h.len]; exact h.ix_lt hk hv) (h.ix_nodup hk) j hj
  rw [Nat.zero_add] at e
  exact e
theorem it_flat (hm : k.nm ≠ .mirror) (p : List Int) (v : Int) : itK k p v = gI p (v % (p.length : Int)).toNat + v - v % (p.length : Int) := by
  obtain ⟨nm, n⟩ := k
  cases nm with
  | plain => rfl
  | mirror => exact absurd rfl hm
  | ring => rfl
theorem it_mirror (hm : k.nm = .mirror) (p : List Int) (v : Int) : itK k p v = gI p (v.natAbs - 1) * (if v > 0 then 1 else -1) := by
  obtain ⟨nm, n⟩ := k
  cases hm
  rfl
theorem ix_flat (hm : k.nm ≠ .mirror) (v : Int) : ixK k v = (v % (k.n : Int)).toNat := by
  obtain ⟨nm, n⟩ := k
  cases nm with
  | plain => rfl
  | mirror => exact absurd rfl hm
  | ring => rfl
theorem ix_mirror (hm : k.nm = .mirror) (v : Int) : ixK k v = v.natAbs - 1 := by
  obtain ⟨nm, n⟩ := k
  cases hm
  rfl
theorem va_flat (hm : k.nm ≠ .mirror) (v : Int) (i : Nat) : vaK k v i = (i : Int) - (v - v % (k.n : Int)) := by
  obtain ⟨nm, n⟩ := k
  cases nm with
  | plain => rfl
  | mirror => exact absurd rfl hm
  | ring => rfl
theorem va_mirror (hm : k.nm = .mirror) (v : Int) (i : Nat) : vaK k v i = ((i : Int) + 1) * (if v > 0 then 1 else -1) := by
  obtain ⟨nm, n⟩ := k
  cases hm
  rfl
theorem first_mirror (hm : k.nm = .mirror) : k.first = 1 := by
  obtain ⟨nm, n⟩ := k
  cases hm
  rfl
theorem first_flat (hm : k.nm ≠ .mirror) : k.first = 0 := by
  obtain ⟨nm, n⟩ := k
  cases nm with
  | plain => rfl
  | mirror => exact absurd rfl hm
  | ring => rfl
theorem mir_or (k : Kd) : k.nm = .mirror ∨ k.nm ≠ .mirror := by
  cases k.nm
  · exact .inr (fun q => nomatch q)
  · exact .inl rfl
  · exact .inr (fun q => nomatch q)
/-- the opposite's items at the places of the order: the start -/
theorem prod_opp (hk : k.good) (h : Sh k o) : prodK k (oppK k o) o = k.start := by
  have hl := h.len
  have pl : (oppK k o).length = k.n := by rw [opp_len, hl]
  apply List.ext_getElem
  · rw [prodK, List.length_map, hl, start_len]
  · intro j h1 h2
    have hj : j < o.length := by rw [prodK, List.length_map] at h1; exact h1
    have e1 : (prodK k (oppK k o) o)[j] = itK k (oppK k o) o[j] := List.getElem_map _
    have e2 : k.start[j] = ((j + k.first : Nat) : Int) := by unfold Kd.start; simp
    rw [e1, e2]
    have g := h.opp_get hk j hj
    have nz := h.nz0
    rcases mir_or k with hm | hm
    · rw [it_mirror hm, ← ix_mirror hm, g, va_mirror hm, first_mirror hm]
      split
      · omega
      · omega
    · rw [it_flat hm, pl, ← ix_flat hm, g, va_flat hm, first_flat hm]
      omega
/-- what makes the start of an order is its opposite alone -/
theorem prod_inj (hk : k.good) (h : Sh k o) (hp : p.length = k.n) (hq : q.length = k.n) (e : prodK k p o = prodK k q o) : p = q := by
  have each : ∀ v, v ∈ o → itK k p v = itK k q v := fun v hv => by
    unfold prodK at e
    exact List.map_inj_left.mp e v hv
  have hr : ∀ r, r < k.n → gI p r = gI q r := fun r hr => by
    have m : ((r + k.first : Nat) : Int) ∈ o.map (absK k) := h.perm.symm.subset (mem_start.mpr ⟨r, hr, rfl⟩)
    obtain ⟨v, hv, ev⟩ := List.mem_map.mp m
    have ei := ix_abs (good_pos hk) (h.val hv)
    have er : ixK k v = r := by omega
    have c := each v hv
    rcases mir_or k with hm | hm
    · rw [it_mirror hm, it_mirror hm, ← ix_mirror hm, er] at c
      split at c <;> omega
    · rw [it_flat hm, it_flat hm, hp, hq, ← ix_flat hm, er] at c
      omega
  apply List.ext_getElem
  · rw [hp, hq]
  · intro i h1 h2
    have c := hr i (by rw [hp] at h1; exact h1)
    unfold gI at c
    rw [List.getD_eq_getElem?_getD, List.getD_eq_getElem?_getD, List.getElem?_eq_getElem h1, List.getElem?_eq_getElem h2] at c
    exact c
theorem opp_start (hk : k.good) : oppK k k.start = k.start := by
  refine prod_inj hk (start_sh hk) (by rw [opp_len, start_len]) start_len ?_
  rw [prod_opp hk (start_sh hk), prod_start hk start_len]
theorem it_shift (hm : k.nm ≠ .mirror) (hp : p.length = k.n) (v c : Int) : itK k p (v + (k.n : Int) * c) = itK k p v + (k.n : Int) * c := by
  rw [it_flat hm, it_flat hm, hp, Int.add_mul_emod_self_left]
  omega
/-- the items of a mapped order -/
theorem it_map (hk : k.good) (hp : p.length = k.n) (hq : q.length = k.n) (hq0 : k.nm = .mirror → ∀ v, v ∈ q → v ≠ 0) {v : Int} (hv : Val k v) : itK k (q.map (itK k p)) v = itK k p (itK k q v) := by
  have hpos := good_pos hk
  have gm : ∀ r, r < k.n → gI (q.map (itK k p)) r = itK k p (gI q r) := fun r hr => by
    unfold gI
    rw [List.getD_eq_getElem?_getD, List.getD_eq_getElem?_getD, List.getElem?_map, List.getElem?_eq_getElem (show r < q.length by omega)]
    rfl
  rcases mir_or k with hm | hm
  · have hv2 : v ≠ 0 ∧ v.natAbs ≤ k.n := by
      obtain ⟨nm, n⟩ := k
      cases hm
      exact hv
    have nz : gI q (v.natAbs - 1) ≠ 0 := hq0 hm _ (by
      unfold gI
      rw [List.getD_eq_getElem?_getD, List.getElem?_eq_getElem (show v.natAbs - 1 < q.length by omega)]
      exact List.getElem_mem _)
    rw [it_mirror hm (q.map (itK k p)), gm _ (by omega), it_mirror hm q]
    have odd := (it_eqv (k := k) hp hpos).neg hm _ nz
    by_cases c : v > 0
    · rw [if_pos c, Int.mul_one, Int.mul_one]
    · rw [if_neg c, show gI q (v.natAbs - 1) * -1 = -(gI q (v.natAbs - 1)) by omega, odd]
      omega
  · have a := Int.emod_nonneg v (show (k.n : Int) ≠ 0 by omega)
    have b := Int.emod_lt_of_pos v (show (0 : Int) < k.n by omega)
    rw [it_flat hm (q.map (itK k p)), List.length_map, hq, gm _ (by omega), it_flat hm q, hq]
    have e : v = v % (k.n : Int) + (k.n : Int) * (v / (k.n : Int)) := (Int.emod_add_mul_ediv v (k.n : Int)).symm
    have e2 : gI q (v % (k.n : Int)).toNat + v - v % (k.n : Int) = gI q (v % (k.n : Int)).toNat + (k.n : Int) * (v / (k.n : Int)) := by omega
    rw [e2, it_shift hm hp]
    omega
theorem opp_step (hk : k.good) (ht : t < k.steps) (ho : Okk k o) (hq : Okk k (oppK k o)) : oppK k (byK k o t) = aheadK k (oppK k o) t := by
  have h := ho.sh hk
  have h' := (ho.by ht).sh hk
  have hqs := hq.sh hk
  have bl := by_len hk ht (start_len (k := k))
  refine prod_inj hk h' (by rw [opp_len, h'.len]) (by rw [aheadK, prodK, List.length_map, hqs.len]) ?_
  rw [prod_opp hk h']
  have e1 : prodK k (aheadK k (oppK k o) t) (byK k o t) = (prodK k (oppK k o) (byK k o t)).map (itK k (byK k k.start t)) := by
    unfold aheadK
    unfold prodK
    rw [List.map_map]
    exact List.map_congr_left fun v hv => it_map hk bl hqs.len hqs.nz0 (h'.val hv)
  have e2 : prodK k (oppK k o) (byK k o t) = byK k k.start t := by
    rw [← prod_opp hk h]
    exact (by_map (it_eqv hqs.len (good_pos hk)) hk ht h.len h.nz0).symm
  rw [e1, e2]
  show k.start = aheadK k (byK k k.start t) t
  rw [ahead_by hk ht ht (start_sh hk), ahead_start hk ht, by_by hk ht start_len]
theorem opp_word (hk : k.good) : ∀ r : List Nat, (∀ s, s ∈ r → s < k.steps) → oppK k (r.reverse.foldl (byK k) k.start) = r.foldl (byK k) k.start
  | [], _ => opp_start hk
  | s :: r, hr => by
    have hs := hr s List.mem_cons_self
    have hr2 : ∀ t, t ∈ r → t < k.steps := fun t ht => hr t (List.mem_cons_of_mem _ ht)
    have ih := opp_word hk r hr2
    have o1 : Okk k (r.reverse.foldl (byK k) k.start) := ⟨r.reverse, fun t ht => hr2 t (List.mem_reverse.mp ht), rfl⟩
    have o2 : Okk k (oppK k (r.reverse.foldl (byK k) k.start)) := by rw [ih]; exact ⟨r, hr2, rfl⟩
    rw [List.reverse_cons, List.foldl_append]
    show oppK k (byK k (r.reverse.foldl (byK k) k.start) s) = _
    rw [opp_step hk hs o1 o2, ih, ahead_word hk hs hr2]
theorem Okk.opp (hk : k.good) (h : Okk k o) : Okk k (oppK k o) := by
  obtain ⟨r, hr, rfl⟩ := h
  have hr2 : ∀ s, s ∈ r.reverse → s < k.steps := fun s hs => hr s (List.mem_reverse.mp hs)
  have e := opp_word hk r.reverse hr2
  rw [List.reverse_reverse] at e
  rw [e]
  exact ⟨r.reverse, hr2, rfl⟩
theorem opp_opp (hk : k.good) (h : Okk k o) : oppK k (oppK k o) = o := by
  obtain ⟨r, hr, rfl⟩ := h
  have hr2 : ∀ s, s ∈ r.reverse → s < k.steps := fun s hs => hr s (List.mem_reverse.mp hs)
  have e := opp_word hk r.reverse hr2
  rw [List.reverse_reverse] at e
  rw [e, opp_word hk r hr]
theorem opp_by (hk : k.good) (ht : t < k.steps) (ho : Okk k o) : oppK k (byK k o t) = aheadK k (oppK k o) t := opp_step hk ht ho (ho.opp hk)
/-- the system of a kind -/
def sysK (k : Kd) (hk : k.good) : Sys (List Int) where
  m := k.steps
  e := k.start
  ok := Okk k
  R := byK k
  L := aheadK k
  inv := oppK k
  fall := fallK k
  len := crK k
  ok_e := Okk.start
  ok_R := fun h hs => h.by hs
  ok_L := fun h hs => h.ahead hk hs
  ok_inv := fun h => h.opp hk
  RR := fun h hs => by_by hk hs (h.sh hk).len
  LR := fun h hs ht => ahead_by hk hs ht (h.sh hk)
  L_e := fun hs => ahead_start hk hs
  inv_e := opp_start hk
  inv_inv := fun h => opp_opp hk h
  inv_R := fun h hs => opp_by hk hs h
  fall_R := fun h hs => fall_by hk hs (h.sh hk)
  len_e := cr_start hk
  len_up := fun h hs hf => cr_up hk hs (h.sh hk) hf
  no_fall := fun h hf => no_fall hk (h.sh hk) hf
  key := fun h hs ht hf => key_of hk hs ht h hf
end
end CX
end
section
set_option Elab.async false
set_option linter.all false
set_option maxRecDepth 100000
set_option maxHeartbeats 4000000
set_option autoImplicit false
/-! Promises of defs, how they are called; the text by names. -/
namespace SL
open PySem PySem.Spec PyProof.Rows L2
/-! ### promises -/
section
variable {α β γ δ ε : Type}
def sp1 (R1 : RP α) (RR : RP ε) (pre : α → Prop) (post : α → ε → Prop) : Sp := fun vs H Q _ => ∃ v x, vs = [v] ∧ R1.r H v x ∧ pre x ∧ ∀ u H' z, Ex H H' → post x z → RR.r (newOf H H') u z → Q u H'
def sp2 (R1 : RP α) (R2 : RP β) (RR : RP ε) (pre : α → β → Prop) (post : α → β → ε → Prop) : Sp := fun vs H Q _ => ∃ v w x y, vs = [v, w] ∧ R1.r H v x ∧ R2.r H w y ∧ pre x y ∧ ∀ u H' z, Ex H H' → post x y z → RR.r (newOf H H') u z → Q u H'
def sp3 (R1 : RP α) (R2 : RP β) (R3 : RP γ) (RR : RP ε) (pre : α → β → γ → Prop) (post : α → β → γ → ε → Prop) : Sp := fun vs H Q _ => ∃ v1 v2 v3 x y z, vs = [v1, v2, v3] ∧ R1.r H v1 x ∧ R2.r H v2 y ∧ R3.r H v3 z ∧ pre x y z ∧ ∀ u H' r, Ex H H' → post x y z r → RR.r (newOf H H') u r → Q u H'
def sp4 (R1 : RP α) (R2 : RP β) (R3 : RP γ) (R4 : RP δ) (RR : RP ε) (pre : α → β → γ → δ → Prop) (post : α → β → γ → δ → ε → Prop) : Sp := fun vs H Q _ => ∃ v1 v2 v3 v4 x y z t, vs = [v1, v2, v3, v4] ∧ R1.r H v1 x ∧ R2.r H v2 y ∧ R3.r H v3 z ∧ R4.r H v4 t ∧ pre x y z t ∧ ∀ u H' r, Ex H H' → post x y z t r → RR.r (newOf H H') u r → Q u H'
variable {R1 : RP α} {R2 : RP β} {R3 : RP γ} {R4 : RP δ} {RR : RP ε} {σ : L2.St} {H : Hp} {ta tb tc td : TE} {E : XK} {x : α} {y : β} {z : γ} {t : δ}
theorem len1 {pre : α → Prop} {post : α → ε → Prop} {vs : List V} {Q : VK} (h : sp1 R1 RR pre post vs H Q E) : vs.length = 1 := by
  obtain ⟨_, _, rfl, _⟩ := h; rfl
theorem len2 {pre : α → β → Prop} {post : α → β → ε → Prop} {vs : List V} {Q : VK} (h : sp2 R1 R2 RR pre post vs H Q E) : vs.length = 2 := by
  obtain ⟨_, _, _, _, rfl, _⟩ := h; rfl
theorem len3 {pre : α → β → γ → Prop} {post : α → β → γ → ε → Prop} {vs : List V} {Q : VK} (h : sp3 R1 R2 R3 RR pre post vs H Q E) : vs.length = 3 := by
  obtain ⟨_, _, _, _, _, _, rfl, _⟩ := h; rfl
theorem len4 {pre : α → β → γ → δ → Prop} {post : α → β → γ → δ → ε → Prop} {vs : List V} {Q : VK} (h : sp4 R1 R2 R3 R4 RR pre post vs H Q E) : vs.length = 4 := by
  obtain ⟨_, _, _, _, _, _, _, _, rfl, _⟩ := h; rfl
theorem ev_c1 {pre : α → Prop} {post : α → ε → Prop} (h1 : Ev ta σ H (Is R1 x)) (hp : pre x) : Ev (tCall (sp1 R1 RR pre post) [] E (tCons ta tNil)) σ H (NuE RR H (post x)) :=
  ev_call (ea_1 h1) fun vs H1 e ⟨v, ev, p1⟩ Q E q => ⟨v, x, ev, p1, hp, fun u H' r e2 po rr => q u H' e2 ⟨r, po, RR.mono (newOf_back e) rr⟩⟩
theorem ev_c2 {pre : α → β → Prop} {post : α → β → ε → Prop} (h1 : Ev ta σ H (Is R1 x)) (h2 : Ev tb σ H (Is R2 y)) (hp : pre x y) : Ev (tCall (sp2 R1 R2 RR pre post) [] E (tCons ta (tCons tb tNil))) σ H (NuE RR H (post x y)) :=
  ev_call (ea_2 h1 h2) fun vs H1 e ⟨v, w, ev, p1, p2⟩ Q E q => ⟨v, w, x, y, ev, p1, p2, hp, fun u H' r e2 po rr => q u H' e2 ⟨r, po, RR.mono (newOf_back e) rr⟩⟩
theorem ev_c3 {pre : α → β → γ → Prop} {post : α → β → γ → ε → Prop} (h1 : Ev ta σ H (Is R1 x)) (h2 : Ev tb σ H (Is R2 y)) (h3 : Ev tc σ H (Is R3 z)) (hp : pre x y z) : Ev (tCall (sp3 R1 R2 R3 RR pre post) [] E (tCons ta (tCons tb (tCons tc tNil)))) σ H (NuE RR H (post x y z)) :=
  ev_call (ea_3 h1 h2 h3) fun vs H1 e ⟨v, w, u, ev, p1, p2, p3⟩ Q E q => ⟨v, w, u, x, y, z, ev, p1, p2, p3, hp, fun u H' r e2 po rr => q u H' e2 ⟨r, po, RR.mono (newOf_back e) rr⟩⟩
theorem ev_c4 {pre : α → β → γ → δ → Prop} {post : α → β → γ → δ → ε → Prop} (h1 : Ev ta σ H (Is R1 x)) (h2 : Ev tb σ H (Is R2 y)) (h3 : Ev tc σ H (Is R3 z)) (h4 : Ev td σ H (Is R4 t)) (hp : pre x y z t) : Ev (tCall (sp4 R1 R2 R3 R4 RR pre post) [] E (tCons ta (tCons tb (tCons tc (tCons td tNil))))) σ H (NuE RR H (post x y z t)) :=
  ev_call (ea_4 h1 h2 h3 h4) fun vs H1 e ⟨v, w, u, v4, ev, p1, p2, p3, p4⟩ Q E q => ⟨v, w, u, v4, x, y, z, t, ev, p1, p2, p3, p4, hp, fun u H' r e2 po rr => q u H' e2 ⟨r, po, RR.mono (newOf_back e) rr⟩⟩
/-- a def with one answer -/
theorem nu1 {te : TE} {f : ε} (h : Ev te σ H (NuE RR H (fun r => r = f))) : Ev te σ H (Nu RR H f) := h.imp fun v H1 _ ⟨r, e, p⟩ => by
  cases e; exact p
theorem nuI {te : TE} {n : Int} (h : Ev te σ H (NuE jI H (fun r => r = n))) : Ev te σ H (Eqv (.int n)) := h.imp fun v H1 _ ⟨r, e, p⟩ => by
  cases e; exact p
theorem nuB {te : TE} {n : Bool} (h : Ev te σ H (NuE jB H (fun r => r = n))) : Ev te σ H (Eqv (.bl n)) := h.imp fun v H1 _ ⟨r, e, p⟩ => by
  cases e; exact p
theorem isI {te : TE} {n : Int} (h : Ev te σ H (Eqv (.int n))) : Ev te σ H (Is jI n) := h
theorem isB {te : TE} {n : Bool} (h : Ev te σ H (Eqv (.bl n))) : Ev te σ H (Is jB n) := h
theorem isN {te : TE} {n : ε} (h : Ev te σ H (NuE RR H (fun r => r = n))) : Ev te σ H (Is RR n) := (nu1 h).is
end

/-! ### defs of the text, how they are called -/
/-- the def x of the module stands as the text has it -/
def Dfn (K : PySem.W.Frag) (mg : Str → Option Value) (x : Str) (st : Stmt) : Prop := ∃ f fd, mg x = some (.ref f) ∧ FunD K x x (defArgs st) (defBody st) (defScope st) [] [] f fd
structure Cal (P : Program) (w : World) (K : PySem.W.Frag) (mg : Str → Option Value) (base : Heap) (k : Nat) (x : Str) (ps : List Str) (sp : Sp) : Prop where
  ex : ∃ f fd, mg x = some (.ref f) ∧ PySem.W.keepIn K (.ref f) = true ∧ Binds K fd ps [] ∧ FnOk P w K mg base CX0 k f fd ps sp ∧ ∃ oc od osl, K.lookup f = some ⟨oc, od, .func fd, osl⟩
/-- a method of the class at C -/
structure Mt (P : Program) (w : World) (K : PySem.W.Frag) (mg : Str → Option Value) (base : Heap) (C : Addr) (k : Nat) (m : Str) (sp : Sp) : Prop where
  ex : ∃ f fd, Meth K C m f ∧ Binds K fd ["self"] [] ∧ FnOk P w K mg base CX0 k f fd ["self"] sp
section
variable {X : Cx} {k : Nat} {x m : Str} {ps : List Str} {sp : Sp} {p pos apos : Pos} {e o : Expr} {es : List Expr} {ta : TE} {t : TA} {C : Addr}
theorem pe_cal (c : Cal X.prog X.w X.K X.mg X.base k x ps sp) (hr : Room k X.A) (hg : Gl X x) (ha : PA X (e :: es) t) (hdb : (x == ("__debug__" : Str)) = false := by decide) (he : starEach (e :: es) X.env = (false, eval e X.env) :: starEach es X.env := by rfl)
    (hpl : (backTo pos (starEach es X.env)).any (·.1) = false := by rfl) : PE X (.Call (.Name x p) (e :: es) [] pos) (tCall sp [] E0 t) := by
  obtain ⟨f, fd, g, kp, b, G, _⟩ := c.ex
  exact pe_call G hr hg g kp b .nil pass0 ha hdb he hpl
/-- f(k = v, ..), all parameters by keywords -/
theorem pe_calK0 {st : Stmt} {ks : List Str} {kws : List Keyword} {tk : TA} {g : List Value → List Value → List Value} {gV : List V → List V → List V} (c : Cal X.prog X.w X.K X.mg X.base k x ps sp) (D : Dfn X.K X.mg x st)
    (hb : ∀ (kV doc pm : Value) (an : Option Addr) (cdv ct : Value) (us ws : List Value), (g us ws).length = ps.length → bindArgs (PySem.W.fnOf x x (defArgs st) (defBody st) (defScope st) .none kV doc pm an cdv ct) ⟨us, ks.zip ws⟩ = pure (ps.zip (g us ws)))
    (hrel : ∀ {vs : List V} {us : List Value} {zs : List V} {ws : List Value}, Vals vs us → Vals zs ws → Vals (gV vs zs) (g us ws))
    (hr : Room k X.A) (hg : Gl X x) (hkw : PK X kws tk) (hall : (backToKw pos (keywordEach kws X.env)).all (·.1.isSome) = true := by rfl) (hks : (backToKw pos (keywordEach kws X.env)).filterMap (·.1) = ks := by rfl) (hdb : (x == ("__debug__" : Str)) = false := by decide)
    (hpl : ((backTo pos (starEach [] X.env)).any (·.1) || (backToKw pos (keywordEach kws X.env)).any (·.1.isNone)) = false := by rfl) :
    PE X (.Call (.Name x p) [] kws pos) (tCallK sp gV E0 tNil tk) := by
  obtain ⟨f, fd, hm, kp, _, G, oc, od, osl, lk⟩ := c.ex
  obtain ⟨f', fd', hm', F⟩ := D
  have ef : f = f' := by
    rw [hm] at hm'
    exact Value.ref.inj (Option.some.inj hm')
  subst ef
  obtain ⟨oc', od', dV, kV, doc, pm, an, cdv, ct, osl', rfl, lk', hcd, hD, hK⟩ := F.ex
  have e2 := lk.symm.trans lk'
  have ed : fd = _ := Data.func.inj (congrArg (fun o : Obj => o.data) (Option.some.inj e2))
  subst ed
  have kb : KBinds X.K (PySem.W.fnOf x x (defArgs st) (defBody st) (defScope st) dV kV doc pm an cdv ct) ps ks g gV := ⟨fun s us ws _ hl => by
    rcases hD with ⟨_, rfl⟩ | ⟨e, _⟩
    · exact .of_eq (hb kV doc pm an cdv ct us ws hl)
    · exact absurd rfl e, hrel⟩
  refine ⟨fun pins s σ H Q I h => ?_⟩
  refine wpAny_Call_Name_kw (ld_glob I hg hm ?_ hdb)
  refine PySem.W.callWith_KW0 (h₀ := X.base) I.ok.mod.kin kp hall ?_ hpl
  refine thn (hkw.run pos pins s σ H _ I h) fun ws s2 ⟨zs, H2, I2, rz, q2⟩ => ⟨I2.kIn, ?_⟩
  rw [hks]
  exact run_fnk (us := []) (vs := []) G hr kb pass0 I2 .nil rz q2
theorem pe_mt {pl : Sem Bool} (c : Mt X.prog X.w X.K X.mg X.base C k m sp) (cl : Cls X.K C) (hr : Room k X.A) (he : PE X o ta)
    (ht : eval (.Call (.Attribute o m apos) [] [] pos) X.env = (do
      let ov ← eval o X.env
      standAt apos.atName
      let (f, first) ← holding [ov] (getMethod ov m pl)
      callWith pos f first (backTo pos (starEach [] X.env)) (backToKw pos (keywordEach [] X.env))) := by rfl) :
    PE X (.Call (.Attribute o m apos) [] [] pos) (tMeth C m sp [] E0 ta tNil) := by
  obtain ⟨f, fd, hm, b, G⟩ := c.ex
  exact pe_meth0 he cl hm G hr b .nil pass0 ht
end
section
variable {P : Program} {w : World} {K : PySem.W.Frag} {mg : Str → Option Value} {base : Heap}
theorem cal_mk {x : Str} {st : Stmt} {N ps : List Str} {k : Nat} {sp : Sp} (D : Dfn K mg x st) (S : FnScope N ps (defScope st)) (len : ∀ vs H Q E, sp vs H Q E → vs.length = ps.length)
    (hb : ∀ (kV doc pm : Value) (an : Option Addr) (cdv ct : Value) (us : List Value), us.length = ps.length → bindArgs (PySem.W.fnOf x x (defArgs st) (defBody st) (defScope st) .none kV doc pm an cdv ct) ⟨us, []⟩ = pure (ps.zip us))
    (body : ∀ (f : Addr) (cdv : Value) (A : Around) (outer : List Env) (s : Shared) (H : Hp) (vs : List V) (Q : VK) (E : XK), Room k (A.deeper (envOfC x (defScope st) s.heap.objs.size f cdv)) → sp vs H Q E →
      ∃ t, PSs (cxOf CX0 P w K mg base N x (defScope st) f cdv A outer s H E).nox (defBody st) t ∧ t { nx := fun _ H' => Q .non H', rt := Q } (L2.start N vs) H) : Cal P w K mg base (k + 1) x ps sp := by
  obtain ⟨f, fd, g, F⟩ := D
  refine ⟨f, fd, g, F.kp, F.bindsN hb, F.ok S len fun cdv A outer s H vs Q E hr h => ?_, ?_⟩
  · obtain ⟨t, h1, h2⟩ := body f cdv A outer s H vs Q E hr h
    exact ⟨t, h1.nox, h2⟩
  · obtain ⟨oc, od, _, _, _, _, _, _, _, osl, _, lk, _⟩ := F.ex
    exact ⟨oc, od, osl, lk⟩
theorem mt_mk {x q : Str} {st : Stmt} {N : List Str} {k : Nat} {sp : Sp} {C f : Addr} {fd : FuncData} (hm : Meth K C x f) (F : FunD K x q (defArgs st) (defBody st) (defScope st) [] [] f fd) (S : FnScope N ["self"] (defScope st)) (len : ∀ vs H Q E, sp vs H Q E → vs.length = 1)
    (hb : ∀ (kV doc pm : Value) (an : Option Addr) (cdv ct : Value) (us : List Value), us.length = 1 → bindArgs (PySem.W.fnOf x q (defArgs st) (defBody st) (defScope st) .none kV doc pm an cdv ct) ⟨us, []⟩ = pure ((["self"] : List Str).zip us))
    (body : ∀ (cdv : Value) (A : Around) (outer : List Env) (s : Shared) (H : Hp) (vs : List V) (Q : VK) (E : XK), Room k (A.deeper (envOfC q (defScope st) s.heap.objs.size f cdv)) → sp vs H Q E →
      ∃ t, PSs (cxOf CX0 P w K mg base N q (defScope st) f cdv A outer s H E).nox (defBody st) t ∧ t { nx := fun _ H' => Q .non H', rt := Q } (L2.start N vs) H) : Mt P w K mg base C (k + 1) x sp := by
  refine ⟨f, fd, hm, F.bindsN hb, F.ok S len fun cdv A outer s H vs Q E hr h => ?_⟩
  obtain ⟨t, h1, h2⟩ := body cdv A outer s H vs Q E hr h
  exact ⟨t, h1.nox, h2⟩
end

/-! ### kinds -/
def nmS : CX.Nm → Str
  | .plain => "plain"
  | .mirror => "mirror"
  | .ring => "ring"
theorem nm_mir (a : CX.Nm) : decide (V.str (nmS a) = V.str "mirror") = decide (a = .mirror) := by cases a <;> decide +kernel
theorem nm_ring (a : CX.Nm) : decide (V.str (nmS a) = V.str "ring") = decide (a = .ring) := by cases a <;> decide +kernel
theorem nm_plain (a : CX.Nm) : decide (V.str (nmS a) = V.str "plain") = decide (a = .plain) := by cases a <;> decide +kernel
/-- the fields, as __init__ stores them -/
def kfl (k : CX.Kd) : List (Str × V) := putF "_size" (.int k.n) (putF "_name" (.str (nmS k.nm)) [])
theorem kfl_name (k : CX.Kd) : (kfl k).lookup ("_name" : Str) = some (.str (nmS k.nm)) := by
  unfold kfl
  rw [lookup_putF, if_neg (by decide +kernel), lookup_putF, if_pos rfl]
theorem kfl_size (k : CX.Kd) : (kfl k).lookup ("_size" : Str) = some (.int k.n) := by
  unfold kfl
  rw [lookup_putF, if_pos rfl]
theorem kfl_no (k : CX.Kd) {m : Str} (h1 : ¬ m = "_size") (h2 : ¬ m = "_name") : (kfl k).lookup m = none := by
  unfold kfl
  rw [lookup_putF, if_neg h1, lookup_putF, if_neg h2]
  rfl
/-- an object of the class at C -/
def jK (C : Addr) : RP CX.Kd := ⟨fun H v k => ∃ a dx, v = .ref a ∧ H a = some (.ins C dx (kfl k)), fun e ⟨a, dx, h1, h2⟩ => ⟨a, dx, h1, e _ _ h2⟩⟩
section
variable {C : Addr} {ε : Type} {RR : RP ε} {σ : L2.St} {H : Hp} {ta : TE} {k : CX.Kd} {E : XK}
/-- kind.m() -/
theorem ev_mt {m : Str} {pre : CX.Kd → Prop} {post : CX.Kd → ε → Prop} (h1 : Ev ta σ H (Is (jK C) k)) (hp : pre k) (n1 : ¬ m = "_size" := by decide +kernel) (n2 : ¬ m = "_name" := by decide +kernel) : Ev (tMeth C m (sp1 (jK C) RR pre post) [] E ta tNil) σ H (NuE RR H (post k)) := fun H1 e Q q =>
  h1 H1 e _ fun v H2 e2 ⟨a, dx, ev, ha⟩ => by
    subst ev
    exact ⟨a, dx, _, rfl, ha, kfl_no k n1 n2, .ref a, k, rfl, ⟨a, dx, rfl, ha⟩, hp, fun u H' r e3 po rr => q u H' (e2.trans e3) ⟨r, po, RR.mono (newOf_back (e.trans e2)) rr⟩⟩
/-- a field -/
theorem ev_fld {K : PySem.W.Frag} {f : Str} {v : V} (cl : Cls K C) (hn : NoAttr K C f) (h1 : Ev ta σ H (Is (jK C) k)) (hl : (kfl k).lookup f = some v) : Ev (tFld K ta f) σ H (Eqv v) := fun H1 e Q q =>
  h1 H1 e _ fun u H2 e2 ⟨a, dx, ev, ha⟩ => by
    subst ev
    exact ⟨a, C, dx, _, v, rfl, ha, cl, hn, hl, q v H2 e2 rfl⟩
end
/-! ### what the walk asks of the top -/
structure Tp (K : PySem.W.Frag) (mg : Str → Option Value) (C : Addr) : Prop where
  cl : Cls K C
  nN : NoAttr K C "_name"
  nS : NoAttr K C "_size"
  isC : C8.InsC K C
  mgC : mg "Kind" = some (.ref C)
  len : mg "len" = none
  isinstance : mg "isinstance" = none
  int : mg "int" = none
  bool : mg "bool" = none
  str : mg "str" = none
  list : mg "list" = none
  sorted : mg "sorted" = none
  sum : mg "sum" = none
  abs : mg "abs" = none
  range : mg "range" = none
  enumerate : mg "enumerate" = none
  zip : mg "zip" = none
  reversed : mg "reversed" = none
  max : mg "max" = none
  repr : mg "repr" = none
  mostC : ∃ t, mg "MOST_CROSSINGS" = some (.int 60 t)
  mostL : ∃ t, mg "MOST_LAYERS" = some (.int 8 t)

/-! ### the text -/
def top (i : Nat) : Stmt := PySem.Challenge.pw_seamlayers_k34_whole_ends_of_classes.main.body.getD i (.Pass ⟨0, 0, 0, 0⟩)
abbrev s_is_whole : Stmt := top 9
abbrev N_is_whole : List Str := ["value"]
abbrev p_is_whole : List Str := ["value"]
theorem sc_is_whole : FnScope N_is_whole p_is_whole (defScope s_is_whole) := ⟨rfl, rfl, rfl, by decide +kernel, rfl, by decide +kernel, by decide +kernel⟩
abbrev s_is_between : Stmt := top 10
abbrev N_is_between : List Str := ["value", "low", "high"]
abbrev p_is_between : List Str := ["value", "low", "high"]
theorem sc_is_between : FnScope N_is_between p_is_between (defScope s_is_between) := ⟨rfl, rfl, rfl, by decide +kernel, rfl, by decide +kernel, by decide +kernel⟩
abbrev s_check_number : Stmt := top 11
abbrev N_check_number : List Str := ["number", "low", "high"]
abbrev p_check_number : List Str := ["number", "low", "high"]
theorem sc_check_number : FnScope N_check_number p_check_number (defScope s_check_number) := ⟨rfl, rfl, rfl, by decide +kernel, rfl, by decide +kernel, by decide +kernel⟩
abbrev s_Kind___init__ : Stmt := inClass (top 12) 0
abbrev N_Kind___init__ : List Str := ["self", "name", "size"]
abbrev p_Kind___init__ : List Str := ["self", "name", "size"]
theorem sc_Kind___init__ : FnScope N_Kind___init__ p_Kind___init__ (defScope s_Kind___init__) := ⟨rfl, rfl, rfl, by decide +kernel, rfl, by decide +kernel, by decide +kernel⟩
abbrev s_Kind_name : Stmt := inClass (top 12) 1
abbrev N_Kind_name : List Str := ["self"]
abbrev p_Kind_name : List Str := ["self"]
theorem sc_Kind_name : FnScope N_Kind_name p_Kind_name (defScope s_Kind_name) := ⟨rfl, rfl, rfl, by decide +kernel, rfl, by decide +kernel, by decide +kernel⟩
abbrev s_Kind_size : Stmt := inClass (top 12) 2
abbrev N_Kind_size : List Str := ["self"]
abbrev p_Kind_size : List Str := ["self"]
theorem sc_Kind_size : FnScope N_Kind_size p_Kind_size (defScope s_Kind_size) := ⟨rfl, rfl, rfl, by decide +kernel, rfl, by decide +kernel, by decide +kernel⟩
abbrev s_Kind_steps : Stmt := inClass (top 12) 3
abbrev N_Kind_steps : List Str := ["self"]
abbrev p_Kind_steps : List Str := ["self"]
theorem sc_Kind_steps : FnScope N_Kind_steps p_Kind_steps (defScope s_Kind_steps) := ⟨rfl, rfl, rfl, by decide +kernel, rfl, by decide +kernel, by decide +kernel⟩
abbrev s_Kind_start : Stmt := inClass (top 12) 4
abbrev N_Kind_start : List Str := ["self", "first"]
abbrev p_Kind_start : List Str := ["self"]
theorem sc_Kind_start : FnScope N_Kind_start p_Kind_start (defScope s_Kind_start) := ⟨rfl, rfl, rfl, by decide +kernel, rfl, by decide +kernel, by decide +kernel⟩
abbrev s_check_kind : Stmt := top 13
abbrev N_check_kind : List Str := ["kind"]
abbrev p_check_kind : List Str := ["kind"]
theorem sc_check_kind : FnScope N_check_kind p_check_kind (defScope s_check_kind) := ⟨rfl, rfl, rfl, by decide +kernel, rfl, by decide +kernel, by decide +kernel⟩
abbrev s_is_crossed : Stmt := top 14
abbrev N_is_crossed : List Str := ["kind", "order", "step"]
abbrev p_is_crossed : List Str := ["kind", "order", "step"]
theorem sc_is_crossed : FnScope N_is_crossed p_is_crossed (defScope s_is_crossed) := ⟨rfl, rfl, rfl, by decide +kernel, rfl, by decide +kernel, by decide +kernel⟩
abbrev s_by_step : Stmt := top 15
abbrev N_by_step : List Str := ["kind", "order", "step", "found", "at"]
abbrev p_by_step : List Str := ["kind", "order", "step"]
theorem sc_by_step : FnScope N_by_step p_by_step (defScope s_by_step) := ⟨rfl, rfl, rfl, by decide +kernel, rfl, by decide +kernel, by decide +kernel⟩
abbrev s_item_at : Stmt := top 16
abbrev N_item_at : List Str := ["kind", "order", "place"]
abbrev p_item_at : List Str := ["kind", "order", "place"]
theorem sc_item_at : FnScope N_item_at p_item_at (defScope s_item_at) := ⟨rfl, rfl, rfl, by decide +kernel, rfl, by decide +kernel, by decide +kernel⟩
abbrev s_product_of : Stmt := top 17
abbrev N_product_of : List Str := ["kind", "one", "other", "place"]
abbrev p_product_of : List Str := ["kind", "one", "other"]
theorem sc_product_of : FnScope N_product_of p_product_of (defScope s_product_of) := ⟨rfl, rfl, rfl, by decide +kernel, rfl, by decide +kernel, by decide +kernel⟩
abbrev s_opposite_of : Stmt := top 18
abbrev N_opposite_of : List Str := ["kind", "order", "found", "at", "item"]
abbrev p_opposite_of : List Str := ["kind", "order"]
theorem sc_opposite_of : FnScope N_opposite_of p_opposite_of (defScope s_opposite_of) := ⟨rfl, rfl, rfl, by decide +kernel, rfl, by decide +kernel, by decide +kernel⟩
abbrev s_ahead_of : Stmt := top 19
abbrev N_ahead_of : List Str := ["kind", "order", "step"]
abbrev p_ahead_of : List Str := ["kind", "order", "step"]
theorem sc_ahead_of : FnScope N_ahead_of p_ahead_of (defScope s_ahead_of) := ⟨rfl, rfl, rfl, by decide +kernel, rfl, by decide +kernel, by decide +kernel⟩
abbrev s_falls_of : Stmt := top 20
abbrev N_falls_of : List Str := ["kind", "order", "step"]
abbrev p_falls_of : List Str := ["kind", "order"]
theorem sc_falls_of : FnScope N_falls_of p_falls_of (defScope s_falls_of) := ⟨rfl, rfl, rfl, by decide +kernel, rfl, by decide +kernel, by decide +kernel⟩
abbrev s_heads_of : Stmt := top 21
abbrev N_heads_of : List Str := ["kind", "order"]
abbrev p_heads_of : List Str := ["kind", "order"]
theorem sc_heads_of : FnScope N_heads_of p_heads_of (defScope s_heads_of) := ⟨rfl, rfl, rfl, by decide +kernel, rfl, by decide +kernel, by decide +kernel⟩
abbrev s_crossings_of : Stmt := top 22
abbrev N_crossings_of : List Str := ["kind", "order", "found", "at", "low", "high"]
abbrev p_crossings_of : List Str := ["kind", "order"]
theorem sc_crossings_of : FnScope N_crossings_of p_crossings_of (defScope s_crossings_of) := ⟨rfl, rfl, rfl, by decide +kernel, rfl, by decide +kernel, by decide +kernel⟩
abbrev s_crossings_between : Stmt := top 23
abbrev N_crossings_between : List Str := ["kind", "size", "low", "high"]
abbrev p_crossings_between : List Str := ["kind", "size", "low", "high"]
theorem sc_crossings_between : FnScope N_crossings_between p_crossings_between (defScope s_crossings_between) := ⟨rfl, rfl, rfl, by decide +kernel, rfl, by decide +kernel, by decide +kernel⟩
abbrev s_is_order_list : Stmt := top 24
abbrev N_is_order_list : List Str := ["kind", "value", "size", "item"]
abbrev p_is_order_list : List Str := ["kind", "value"]
theorem sc_is_order_list : FnScope N_is_order_list p_is_order_list (defScope s_is_order_list) := ⟨rfl, rfl, rfl, by decide +kernel, rfl, by decide +kernel, by decide +kernel⟩
abbrev s_is_let_order : Stmt := top 25
abbrev N_is_let_order : List Str := ["kind", "value"]
abbrev p_is_let_order : List Str := ["kind", "value"]
theorem sc_is_let_order : FnScope N_is_let_order p_is_let_order (defScope s_is_let_order) := ⟨rfl, rfl, rfl, by decide +kernel, rfl, by decide +kernel, by decide +kernel⟩
abbrev s_least_row_of : Stmt := top 27
abbrev N_least_row_of : List Str := ["kind", "order", "found", "left", "steps"]
abbrev p_least_row_of : List Str := ["kind", "order"]
theorem sc_least_row_of : FnScope N_least_row_of p_least_row_of (defScope s_least_row_of) := ⟨rfl, rfl, rfl, by decide +kernel, rfl, by decide +kernel, by decide +kernel⟩
abbrev s_gain : Stmt := top 29
abbrev N_gain : List Str := ["kind", "order", "step"]
abbrev p_gain : List Str := ["kind", "order", "step"]
theorem sc_gain : FnScope N_gain p_gain (defScope s_gain) := ⟨rfl, rfl, rfl, by decide +kernel, rfl, by decide +kernel, by decide +kernel⟩
abbrev s_greedy_of : Stmt := top 30
abbrev N_greedy_of : List Str := ["kind", "one", "other"]
abbrev p_greedy_of : List Str := ["kind", "one", "other"]
theorem sc_greedy_of : FnScope N_greedy_of p_greedy_of (defScope s_greedy_of) := ⟨rfl, rfl, rfl, by decide +kernel, rfl, by decide +kernel, by decide +kernel⟩
abbrev s_gained_all : Stmt := top 31
abbrev N_gained_all : List Str := ["kind", "order", "row", "found", "step"]
abbrev p_gained_all : List Str := ["kind", "order", "row"]
theorem sc_gained_all : FnScope N_gained_all p_gained_all (defScope s_gained_all) := ⟨rfl, rfl, rfl, by decide +kernel, rfl, by decide +kernel, by decide +kernel⟩
abbrev s_wholes_of : Stmt := top 34
abbrev N_wholes_of : List Str := ["kind", "standing", "found", "order"]
abbrev p_wholes_of : List Str := ["kind", "standing"]
theorem sc_wholes_of : FnScope N_wholes_of p_wholes_of (defScope s_wholes_of) := ⟨rfl, rfl, rfl, by decide +kernel, rfl, by decide +kernel, by decide +kernel⟩
abbrev s_whole_of : Stmt := top 35
abbrev N_whole_of : List Str := ["kind", "standing"]
abbrev p_whole_of : List Str := ["kind", "standing"]
theorem sc_whole_of : FnScope N_whole_of p_whole_of (defScope s_whole_of) := ⟨rfl, rfl, rfl, by decide +kernel, rfl, by decide +kernel, by decide +kernel⟩
abbrev s_is_let_standing : Stmt := top 36
abbrev N_is_let_standing : List Str := ["kind", "value", "order"]
abbrev p_is_let_standing : List Str := ["kind", "value"]
theorem sc_is_let_standing : FnScope N_is_let_standing p_is_let_standing (defScope s_is_let_standing) := ⟨rfl, rfl, rfl, by decide +kernel, rfl, by decide +kernel, by decide +kernel⟩
abbrev s_check_standing : Stmt := top 37
abbrev N_check_standing : List Str := ["kind", "standing"]
abbrev p_check_standing : List Str := ["kind", "standing"]
theorem sc_check_standing : FnScope N_check_standing p_check_standing (defScope s_check_standing) := ⟨rfl, rfl, rfl, by decide +kernel, rfl, by decide +kernel, by decide +kernel⟩
abbrev s_check_two_standings : Stmt := top 38
abbrev N_check_two_standings : List Str := ["kind", "one", "other"]
abbrev p_check_two_standings : List Str := ["kind", "one", "other"]
theorem sc_check_two_standings : FnScope N_check_two_standings p_check_two_standings (defScope s_check_two_standings) := ⟨rfl, rfl, rfl, by decide +kernel, rfl, by decide +kernel, by decide +kernel⟩
abbrev s_copied : Stmt := top 39
abbrev N_copied : List Str := ["standing", "order"]
abbrev p_copied : List Str := ["standing"]
theorem sc_copied : FnScope N_copied p_copied (defScope s_copied) := ⟨rfl, rfl, rfl, by decide +kernel, rfl, by decide +kernel, by decide +kernel⟩
abbrev s_turned_of : Stmt := top 40
abbrev N_turned_of : List Str := ["kind", "standing", "order"]
abbrev p_turned_of : List Str := ["kind", "standing"]
theorem sc_turned_of : FnScope N_turned_of p_turned_of (defScope s_turned_of) := ⟨rfl, rfl, rfl, by decide +kernel, rfl, by decide +kernel, by decide +kernel⟩
abbrev s_deeds_of : Stmt := top 41
abbrev N_deeds_of : List Str := ["kind", "standing", "found", "seam", "step"]
abbrev p_deeds_of : List Str := ["kind", "standing"]
theorem sc_deeds_of : FnScope N_deeds_of p_deeds_of (defScope s_deeds_of) := ⟨rfl, rfl, rfl, by decide +kernel, rfl, by decide +kernel, by decide +kernel⟩
abbrev s_behind_deed : Stmt := top 42
abbrev N_behind_deed : List Str := ["kind", "standing", "deed", "seam", "side", "step", "found"]
abbrev p_behind_deed : List Str := ["kind", "standing", "deed"]
theorem sc_behind_deed : FnScope N_behind_deed p_behind_deed (defScope s_behind_deed) := ⟨rfl, rfl, rfl, by decide +kernel, rfl, by decide +kernel, by decide +kernel⟩
abbrev s_turned : Stmt := top 43
abbrev N_turned : List Str := ["kind", "standing"]
abbrev p_turned : List Str := ["kind", "standing"]
theorem sc_turned : FnScope N_turned p_turned (defScope s_turned) := ⟨rfl, rfl, rfl, by decide +kernel, rfl, by decide +kernel, by decide +kernel⟩
abbrev s_are_joined : Stmt := top 45
abbrev N_are_joined : List Str := ["kind", "one", "other"]
abbrev p_are_joined : List Str := ["kind", "one", "other"]
theorem sc_are_joined : FnScope N_are_joined p_are_joined (defScope s_are_joined) := ⟨rfl, rfl, rfl, by decide +kernel, rfl, by decide +kernel, by decide +kernel⟩
abbrev s_last_layer : Stmt := top 46
abbrev N_last_layer : List Str := ["kind", "standing", "at"]
abbrev p_last_layer : List Str := ["kind", "standing"]
theorem sc_last_layer : FnScope N_last_layer p_last_layer (defScope s_last_layer) := ⟨rfl, rfl, rfl, by decide +kernel, rfl, by decide +kernel, by decide +kernel⟩
abbrev s_deeds_up : Stmt := top 47
abbrev N_deeds_up : List Str := ["kind", "standing", "found", "left", "at", "step", "side"]
abbrev p_deeds_up : List Str := ["kind", "standing"]
theorem sc_deeds_up : FnScope N_deeds_up p_deeds_up (defScope s_deeds_up) := ⟨rfl, rfl, rfl, by decide +kernel, rfl, by decide +kernel, by decide +kernel⟩
abbrev s_deeds_down : Stmt := top 48
abbrev N_deeds_down : List Str := ["kind", "standing", "last", "other", "seam", "side", "step"]
abbrev p_deeds_down : List Str := ["kind", "standing"]
theorem sc_deeds_down : FnScope N_deeds_down p_deeds_down (defScope s_deeds_down) := ⟨rfl, rfl, rfl, by decide +kernel, rfl, by decide +kernel, by decide +kernel⟩
abbrev s_way_of : Stmt := top 49
abbrev N_way_of : List Str := ["kind", "one", "other", "high", "low"]
abbrev p_way_of : List Str := ["kind", "one", "other"]
theorem sc_way_of : FnScope N_way_of p_way_of (defScope s_way_of) := ⟨rfl, rfl, rfl, by decide +kernel, rfl, by decide +kernel, by decide +kernel⟩
abbrev s_joined : Stmt := top 50
abbrev N_joined : List Str := ["kind", "one", "other"]
abbrev p_joined : List Str := ["kind", "one", "other"]
theorem sc_joined : FnScope N_joined p_joined (defScope s_joined) := ⟨rfl, rfl, rfl, by decide +kernel, rfl, by decide +kernel, by decide +kernel⟩
abbrev s_way : Stmt := top 51
abbrev N_way : List Str := ["kind", "one", "other"]
abbrev p_way : List Str := ["kind", "one", "other"]
theorem sc_way : FnScope N_way p_way (defScope s_way) := ⟨rfl, rfl, rfl, by decide +kernel, rfl, by decide +kernel, by decide +kernel⟩
abbrev s_uppermost : Stmt := top 52
abbrev N_uppermost : List Str := ["kind", "standing", "_"]
abbrev p_uppermost : List Str := ["kind", "standing"]
theorem sc_uppermost : FnScope N_uppermost p_uppermost (defScope s_uppermost) := ⟨rfl, rfl, rfl, by decide +kernel, rfl, by decide +kernel, by decide +kernel⟩
abbrev s_lowermost : Stmt := top 53
abbrev N_lowermost : List Str := ["kind", "standing", "_"]
abbrev p_lowermost : List Str := ["kind", "standing"]
theorem sc_lowermost : FnScope N_lowermost p_lowermost (defScope s_lowermost) := ⟨rfl, rfl, rfl, by decide +kernel, rfl, by decide +kernel, by decide +kernel⟩
abbrev s_height_of : Stmt := top 55
abbrev N_height_of : List Str := ["kind", "standing", "found", "at", "order", "lot"]
abbrev p_height_of : List Str := ["kind", "standing"]
theorem sc_height_of : FnScope N_height_of p_height_of (defScope s_height_of) := ⟨rfl, rfl, rfl, by decide +kernel, rfl, by decide +kernel, by decide +kernel⟩
abbrev s_depth_of : Stmt := top 56
abbrev N_depth_of : List Str := ["kind", "standing"]
abbrev p_depth_of : List Str := ["kind", "standing"]
theorem sc_depth_of : FnScope N_depth_of p_depth_of (defScope s_depth_of) := ⟨rfl, rfl, rfl, by decide +kernel, rfl, by decide +kernel, by decide +kernel⟩
abbrev s_leads_up : Stmt := top 57
abbrev N_leads_up : List Str := ["kind", "standing", "lots", "deed", "seam", "side", "step", "lower", "lot", "left", "rest"]
abbrev p_leads_up : List Str := ["kind", "standing", "lots", "deed"]
theorem sc_leads_up : FnScope N_leads_up p_leads_up (defScope s_leads_up) := ⟨rfl, rfl, rfl, by decide +kernel, rfl, by decide +kernel, by decide +kernel⟩
abbrev s_steps_up : Stmt := top 58
abbrev N_steps_up : List Str := ["kind", "standing", "lots", "found", "deed"]
abbrev p_steps_up : List Str := ["kind", "standing"]
theorem sc_steps_up : FnScope N_steps_up p_steps_up (defScope s_steps_up) := ⟨rfl, rfl, rfl, by decide +kernel, rfl, by decide +kernel, by decide +kernel⟩
abbrev s_far_above : Stmt := top 59
abbrev N_far_above : List Str := ["kind", "standing"]
abbrev p_far_above : List Str := ["kind", "standing"]
theorem sc_far_above : FnScope N_far_above p_far_above (defScope s_far_above) := ⟨rfl, rfl, rfl, by decide +kernel, rfl, by decide +kernel, by decide +kernel⟩
abbrev s_far_below : Stmt := top 60
abbrev N_far_below : List Str := ["kind", "standing"]
abbrev p_far_below : List Str := ["kind", "standing"]
theorem sc_far_below : FnScope N_far_below p_far_below (defScope s_far_below) := ⟨rfl, rfl, rfl, by decide +kernel, rfl, by decide +kernel, by decide +kernel⟩
abbrev s_way_up : Stmt := top 61
abbrev N_way_up : List Str := ["kind", "standing", "found", "left", "deed"]
abbrev p_way_up : List Str := ["kind", "standing"]
theorem sc_way_up : FnScope N_way_up p_way_up (defScope s_way_up) := ⟨rfl, rfl, rfl, by decide +kernel, rfl, by decide +kernel, by decide +kernel⟩
abbrev s__law_hash : Stmt := top 63
abbrev N__law_hash : List Str := ["_law_seed", "_law_index", "_law_mixed"]
abbrev p__law_hash : List Str := ["_law_seed", "_law_index"]
theorem sc__law_hash : FnScope N__law_hash p__law_hash (defScope s__law_hash) := ⟨rfl, rfl, rfl, by decide +kernel, rfl, by decide +kernel, by decide +kernel⟩
abbrev s__law_random : Stmt := top 64
abbrev N__law_random : List Str := ["_law_generator_here", "_law_bound", "_law_drawn", "_law_turn"]
abbrev p__law_random : List Str := ["_law_generator_here", "_law_bound"]
theorem sc__law_random : FnScope N__law_random p__law_random (defScope s__law_random) := ⟨rfl, rfl, rfl, by decide +kernel, rfl, by decide +kernel, by decide +kernel⟩
abbrev s__law_cell : Stmt := top 65
abbrev N__law_cell : List Str := ["_law_script", "_law_index"]
abbrev p__law_cell : List Str := ["_law_script", "_law_index"]
theorem sc__law_cell : FnScope N__law_cell p__law_cell (defScope s__law_cell) := ⟨rfl, rfl, rfl, by decide +kernel, rfl, by decide +kernel, by decide +kernel⟩
abbrev s__law_generator : Stmt := top 66
abbrev N__law_generator : List Str := ["_law_script", "_law_index", "_law_seed"]
abbrev p__law_generator : List Str := ["_law_script", "_law_index"]
theorem sc__law_generator : FnScope N__law_generator p__law_generator (defScope s__law_generator) := ⟨rfl, rfl, rfl, by decide +kernel, rfl, by decide +kernel, by decide +kernel⟩
abbrev s__law_kind : Stmt := top 67
abbrev N__law_kind : List Str := ["_law_generator_here", "_law_great", "_law_name"]
abbrev p__law_kind : List Str := ["_law_generator_here", "_law_great"]
theorem sc__law_kind : FnScope N__law_kind p__law_kind (defScope s__law_kind) := ⟨rfl, rfl, rfl, by decide +kernel, rfl, by decide +kernel, by decide +kernel⟩
abbrev s__law_steps : Stmt := top 68
abbrev N__law_steps : List Str := ["_law_kind_here"]
abbrev p__law_steps : List Str := ["_law_kind_here"]
theorem sc__law_steps : FnScope N__law_steps p__law_steps (defScope s__law_steps) := ⟨rfl, rfl, rfl, by decide +kernel, rfl, by decide +kernel, by decide +kernel⟩
abbrev s__law_start : Stmt := top 69
abbrev N__law_start : List Str := ["_law_kind_here"]
abbrev p__law_start : List Str := ["_law_kind_here"]
theorem sc__law_start : FnScope N__law_start p__law_start (defScope s__law_start) := ⟨rfl, rfl, rfl, by decide +kernel, rfl, by decide +kernel, by decide +kernel⟩
abbrev s__law_fall : Stmt := top 70
abbrev N__law_fall : List Str := ["_law_kind_here", "_law_order_here", "_law_step"]
abbrev p__law_fall : List Str := ["_law_kind_here", "_law_order_here", "_law_step"]
theorem sc__law_fall : FnScope N__law_fall p__law_fall (defScope s__law_fall) := ⟨rfl, rfl, rfl, by decide +kernel, rfl, by decide +kernel, by decide +kernel⟩
abbrev s__law_by : Stmt := top 71
abbrev N__law_by : List Str := ["_law_kind_here", "_law_order_here", "_law_step", "_law_found", "_law_at"]
abbrev p__law_by : List Str := ["_law_kind_here", "_law_order_here", "_law_step"]
theorem sc__law_by : FnScope N__law_by p__law_by (defScope s__law_by) := ⟨rfl, rfl, rfl, by decide +kernel, rfl, by decide +kernel, by decide +kernel⟩
abbrev s__law_falls : Stmt := top 72
abbrev N__law_falls : List Str := ["_law_kind_here", "_law_order_here", "_law_step"]
abbrev p__law_falls : List Str := ["_law_kind_here", "_law_order_here"]
theorem sc__law_falls : FnScope N__law_falls p__law_falls (defScope s__law_falls) := ⟨rfl, rfl, rfl, by decide +kernel, rfl, by decide +kernel, by decide +kernel⟩
abbrev s__law_row : Stmt := top 73
abbrev N__law_row : List Str := ["_law_kind_here", "_law_order_here", "_law_found", "_law_left", "_law_turn", "_law_steps_here"]
abbrev p__law_row : List Str := ["_law_kind_here", "_law_order_here"]
theorem sc__law_row : FnScope N__law_row p__law_row (defScope s__law_row) := ⟨rfl, rfl, rfl, by decide +kernel, rfl, by decide +kernel, by decide +kernel⟩
abbrev s__law_made : Stmt := top 74
abbrev N__law_made : List Str := ["_law_kind_here", "_law_order_here", "_law_row_here", "_law_found", "_law_step"]
abbrev p__law_made : List Str := ["_law_kind_here", "_law_order_here", "_law_row_here"]
theorem sc__law_made : FnScope N__law_made p__law_made (defScope s__law_made) := ⟨rfl, rfl, rfl, by decide +kernel, rfl, by decide +kernel, by decide +kernel⟩
abbrev s__law_back : Stmt := top 75
abbrev N__law_back : List Str := ["_law_kind_here", "_law_order_here"]
abbrev p__law_back : List Str := ["_law_kind_here", "_law_order_here"]
theorem sc__law_back : FnScope N__law_back p__law_back (defScope s__law_back) := ⟨rfl, rfl, rfl, by decide +kernel, rfl, by decide +kernel, by decide +kernel⟩
abbrev s__law_ahead : Stmt := top 76
abbrev N__law_ahead : List Str := ["_law_kind_here", "_law_order_here", "_law_step"]
abbrev p__law_ahead : List Str := ["_law_kind_here", "_law_order_here", "_law_step"]
theorem sc__law_ahead : FnScope N__law_ahead p__law_ahead (defScope s__law_ahead) := ⟨rfl, rfl, rfl, by decide +kernel, rfl, by decide +kernel, by decide +kernel⟩
abbrev s__law_heads : Stmt := top 77
abbrev N__law_heads : List Str := ["_law_kind_here", "_law_order_here"]
abbrev p__law_heads : List Str := ["_law_kind_here", "_law_order_here"]
theorem sc__law_heads : FnScope N__law_heads p__law_heads (defScope s__law_heads) := ⟨rfl, rfl, rfl, by decide +kernel, rfl, by decide +kernel, by decide +kernel⟩
abbrev s__law_greedy : Stmt := top 78
abbrev N__law_greedy : List Str := ["_law_kind_here", "_law_one", "_law_other", "_law_found", "_law_step"]
abbrev p__law_greedy : List Str := ["_law_kind_here", "_law_one", "_law_other"]
theorem sc__law_greedy : FnScope N__law_greedy p__law_greedy (defScope s__law_greedy) := ⟨rfl, rfl, rfl, by decide +kernel, rfl, by decide +kernel, by decide +kernel⟩
abbrev s__law_wholes : Stmt := top 79
abbrev N__law_wholes : List Str := ["_law_kind_here", "_law_standing_here", "_law_found", "_law_at"]
abbrev p__law_wholes : List Str := ["_law_kind_here", "_law_standing_here"]
theorem sc__law_wholes : FnScope N__law_wholes p__law_wholes (defScope s__law_wholes) := ⟨rfl, rfl, rfl, by decide +kernel, rfl, by decide +kernel, by decide +kernel⟩
abbrev s__law_order : Stmt := top 80
abbrev N__law_order : List Str := ["_law_generator_here", "_law_kind_here", "_law_most", "_law_steps_here", "_law_row_here", "_law_turn"]
abbrev p__law_order : List Str := ["_law_generator_here", "_law_kind_here", "_law_most"]
theorem sc__law_order : FnScope N__law_order p__law_order (defScope s__law_order) := ⟨rfl, rfl, rfl, by decide +kernel, rfl, by decide +kernel, by decide +kernel⟩
abbrev s__law_standing : Stmt := top 81
abbrev N__law_standing : List Str := ["_law_generator_here", "_law_kind_here", "_law_layers", "_law_most", "_law_layer"]
abbrev p__law_standing : List Str := ["_law_generator_here", "_law_kind_here", "_law_layers", "_law_most"]
theorem sc__law_standing : FnScope N__law_standing p__law_standing (defScope s__law_standing) := ⟨rfl, rfl, rfl, by decide +kernel, rfl, by decide +kernel, by decide +kernel⟩
abbrev s__law_deeds : Stmt := top 82
abbrev N__law_deeds : List Str := ["_law_kind_here", "_law_standing_here", "_law_found", "_law_seam", "_law_step"]
abbrev p__law_deeds : List Str := ["_law_kind_here", "_law_standing_here"]
theorem sc__law_deeds : FnScope N__law_deeds p__law_deeds (defScope s__law_deeds) := ⟨rfl, rfl, rfl, by decide +kernel, rfl, by decide +kernel, by decide +kernel⟩
abbrev s__law_done : Stmt := top 83
abbrev N__law_done : List Str := ["_law_kind_here", "_law_standing_here", "_law_deed", "_law_seam", "_law_side", "_law_step", "_law_found", "_law_order_here"]
abbrev p__law_done : List Str := ["_law_kind_here", "_law_standing_here", "_law_deed"]
theorem sc__law_done : FnScope N__law_done p__law_done (defScope s__law_done) := ⟨rfl, rfl, rfl, by decide +kernel, rfl, by decide +kernel, by decide +kernel⟩
abbrev s__law_walked : Stmt := top 84
abbrev N__law_walked : List Str := ["_law_generator_here", "_law_kind_here", "_law_standing_here", "_law_many", "_law_found", "_law_line", "_law_order_here", "_law_turn", "_law_some"]
abbrev p__law_walked : List Str := ["_law_generator_here", "_law_kind_here", "_law_standing_here", "_law_many"]
theorem sc__law_walked : FnScope N__law_walked p__law_walked (defScope s__law_walked) := ⟨rfl, rfl, rfl, by decide +kernel, rfl, by decide +kernel, by decide +kernel⟩
abbrev s__law_each_seam_right : Stmt := top 85
abbrev N__law_each_seam_right : List Str := ["_law_kind_here", "_law_entire", "_law_line", "_law_layers", "_law_size", "_law_seam", "_law_side", "_law_steps_here", "_law_other", "_law_beside", "_law_step"]
abbrev p__law_each_seam_right : List Str := ["_law_kind_here", "_law_entire", "_law_line", "_law_layers"]
theorem sc__law_each_seam_right : FnScope N__law_each_seam_right p__law_each_seam_right (defScope s__law_each_seam_right) := ⟨rfl, rfl, rfl, by decide +kernel, rfl, by decide +kernel, by decide +kernel⟩
abbrev s__law_good : Stmt := top 86
abbrev N__law_good : List Str := ["_law_generator_here", "_law_kind_here", "_law_standing_here", "_law_told", "_law_entire", "_law_starts", "_law_kept", "_law_layer", "_law_order_here", "_law_high", "_law_low", "_law_other", "_law_line", "_law_back_here", "_law_lines", "_law_far", "_law_found", "_law_rest"]
abbrev p__law_good : List Str := ["_law_generator_here"]
theorem sc__law_good : FnScope N__law_good p__law_good (defScope s__law_good) := ⟨rfl, rfl, rfl, by decide +kernel, rfl, by decide +kernel, by decide +kernel⟩
abbrev s_law : Stmt := top 87
abbrev N_law : List Str := ["_law_script", "_law_index", "_law_mirror"]
abbrev p_law : List Str := ["_law_script"]
theorem sc_law : FnScope N_law p_law (defScope s_law) := ⟨rfl, rfl, rfl, by decide +kernel, rfl, by decide +kernel, by decide +kernel⟩
end SL
end
section
set_option Elab.async false
set_option linter.all false
set_option maxRecDepth 100000
set_option maxHeartbeats 4000000
set_option autoImplicit false
/-! More of the value layer. -/
namespace SL
open PySem PySem.Spec PyProof.Rows L2
def jN : RP Nat := ⟨fun _ v n => v = .int (n : Int), fun _ h => h⟩
section
variable {K : PySem.W.Frag} {σ : L2.St} {H H' : Hp} {ta tb tc td te : TE} {tt tu : TT} {x y z v : V} {P P' P1 P2 P3 : V → Hp → Prop} {D : Ends} {ts tw tz : TS} {i : Nat} {C : Addr} {k : CX.Kd}
theorem nuS {n : Str} (h : Ev te σ H (NuE jS H (fun r => r = n))) : Ev te σ H (Eqv (.str n)) := h.imp fun v H1 _ ⟨r, e, p⟩ => by
  cases e; exact p
theorem nuN {n : Nat} (h : Ev te σ H (NuE jN H (fun r => r = n))) : Ev te σ H (Eqv (.int n)) := h.imp fun v H1 _ ⟨r, e, p⟩ => by
  cases e; exact p
theorem isNt {n : Nat} (h : Ev te σ H (Eqv (.int n))) : Ev te σ H (Is jN n) := h
theorem isNt' {n : Nat} {i : Int} (h : Ev te σ H (Eqv (.int i))) (e : i = (n : Int)) : Ev te σ H (Is jN n) := by subst e; exact h
/-- int(a bool), int(an int) -/
theorem ev_intB {b : Bool} {r : List V → Hp → VK → Prop} (hr : ∀ (b : Bool) (H : Hp) (Q : VK), Q (.int (if b then 1 else 0)) H → r [.bl b] H Q) (h : Ev ta σ H (Eqv (.bl b))) : Ev (tCB r (tCons ta tNil)) σ H (Eqv (.int (if b then 1 else 0))) :=
  ev_cb (ea_1 h) fun vs H1 e ⟨v, ev, p⟩ Q q => by
    subst ev
    cases p
    exact hr b H1 Q (q _ H1 (Evl.Ex.refl _) rfl)
theorem ev_intI {n : Int} {r : List V → Hp → VK → Prop} (hr : ∀ (n : Int) (H : Hp) (Q : VK), Q (.int n) H → r [.int n] H Q) (h : Ev ta σ H (Eqv (.int n))) : Ev (tCB r (tCons ta tNil)) σ H (Eqv (.int n)) :=
  ev_cb (ea_1 h) fun vs H1 e ⟨v, ev, p⟩ Q q => by
    subst ev
    cases p
    exact hr n H1 Q (q _ H1 (Evl.Ex.refl _) rfl)
/-- a built-in of one value -/
theorem ev_b1 {u w : V} {r : List V → Hp → VK → Prop} (hr : ∀ (H : Hp) (Q : VK), Q w H → r [u] H Q) (h : Ev ta σ H (Eqv u)) : Ev (tCB r (tCons ta tNil)) σ H (Eqv w) :=
  ev_cb (ea_1 h) fun vs H1 e ⟨v, ev, p⟩ Q q => by
    subst ev
    cases p
    exact hr H1 Q (q _ H1 (Evl.Ex.refl _) rfl)
theorem ev_b2 {u u2 w : V} {r : List V → Hp → VK → Prop} (hr : ∀ (H : Hp) (Q : VK), Q w H → r [u, u2] H Q) (h : Ev ta σ H (Eqv u)) (h2 : Ev tb σ H (Eqv u2)) : Ev (tCB r (tCons ta (tCons tb tNil))) σ H (Eqv w) :=
  ev_cb (ea_2 h h2) fun vs H1 e ⟨v, v2, ev, p, p2⟩ Q q => by
    subst ev
    cases p; cases p2
    exact hr H1 Q (q _ H1 (Evl.Ex.refl _) rfl)
/-! tests whose answer is known -/
theorem q_yes (h : EvT tt σ H true) (k : ∀ H1, Ex H H1 → ts { D with nx := tz D } σ H1) : tSeq (tIfS tt ts tw) tz D σ H := q_if h (fun _ => k) (fun e => nomatch e)
theorem q_no (h : EvT tt σ H false) (k : ∀ H1, Ex H H1 → tw { D with nx := tz D } σ H1) : tSeq (tIfS tt ts tw) tz D σ H := q_if h (fun e => nomatch e) (fun _ => k)
/-- no else -/
theorem q_skip (h : EvT tt σ H false) (k : ∀ H1, Ex H H1 → tz D σ H1) : tSeq (tIfS tt ts tNext) tz D σ H := q_when h (fun e => nomatch e) (fun _ => k)
theorem s_yes (h : EvT tt σ H true) (k : ∀ H1, Ex H H1 → ts D σ H1) : tIfS tt ts tw D σ H := s_if h (fun _ => k) (fun e => nomatch e)
theorem s_no (h : EvT tt σ H false) (k : ∀ H1, Ex H H1 → tw D σ H1) : tIfS tt ts tw D σ H := s_if h (fun e => nomatch e) (fun _ => k)
theorem s_skip (h : EvT tt σ H false) (k : ∀ H1, Ex H H1 → D.nx σ H1) : tIfS tt ts tNext D σ H := s_if h (fun e => nomatch e) (fun _ => k)
theorem ev_yes (h : EvT tt σ H true) (h1 : Ev ta σ H P) : Ev (tIf tt ta tb) σ H P := ev_if h (fun _ => h1) (fun e => nomatch e)
theorem ev_no (h : EvT tt σ H false) (h1 : Ev tb σ H P) : Ev (tIf tt ta tb) σ H P := ev_if h (fun e => nomatch e) (fun _ => h1)
theorem et_and0 (h1 : EvT tt σ H false) : EvT (tAnd tt tu) σ H false := et_and (b := false) h1 (fun e => nomatch e)
theorem et_and1 {b : Bool} (h1 : EvT tt σ H true) (h2 : EvT tu σ H b) : EvT (tAnd tt tu) σ H b := et_and h1 fun _ => h2
theorem et_or1 (h1 : EvT tt σ H true) : EvT (tOr tt tu) σ H true := et_or (b := true) h1 (fun e => nomatch e)
theorem et_or0 {b : Bool} (h1 : EvT tt σ H false) (h2 : EvT tu σ H b) : EvT (tOr tt tu) σ H b := et_or h1 fun _ => h2
/-- int comparisons as tests -/
theorem et_i {p : Int → Int → Bool} {a b : Int} (ha : Ev ta σ H (Eqv (.int a))) (hb : Ev tb σ H (Eqv (.int b))) : EvT (tTest (tOp (rI0 fun i j => .bl (p i j)) ta tb)) σ H (p a b) := et_test (ev_i0 ha hb)
theorem dec_int {a b : Int} : decide (V.int a = V.int b) = decide (a = b) := by
  by_cases h : a = b
  · subst h; rw [decide_eq_true rfl, decide_eq_true rfl]
  · rw [decide_eq_false h, decide_eq_false fun e => h (V.int.inj e)]
theorem et_eqI {a b : Int} (ha : Ev ta σ H (Eqv (.int a))) (hb : Ev tb σ H (Eqv (.int b))) : EvT (tTest (tOp rEq ta tb)) σ H (decide (a = b)) := (et_test (ev_eq ha hb rfl)).eq dec_int
theorem et_neI {a b : Int} (ha : Ev ta σ H (Eqv (.int a))) (hb : Ev tb σ H (Eqv (.int b))) : EvT (tTest (tOp rNe ta tb)) σ H (!decide (a = b)) := (et_test (ev_ne ha hb rfl)).eq (by rw [dec_int])
theorem et_mir (h : Ev te σ H (Eqv (.str (nmS k.nm)))) : EvT (tTest (tOp rEq te (tC (.str "mirror")))) σ H (decide (k.nm = .mirror)) := (et_test (ev_eq h ev_c rfl)).eq (nm_mir _)
theorem et_ring (h : Ev te σ H (Eqv (.str (nmS k.nm)))) : EvT (tTest (tOp rEq te (tC (.str "ring")))) σ H (decide (k.nm = .ring)) := (et_test (ev_eq h ev_c rfl)).eq (nm_ring _)
theorem et_plain (h : Ev te σ H (Eqv (.str (nmS k.nm)))) : EvT (tTest (tOp rEq te (tC (.str "plain")))) σ H (decide (k.nm = .plain)) := (et_test (ev_eq h ev_c rfl)).eq (nm_plain _)
theorem ev_mir (h : Ev te σ H (Eqv (.str (nmS k.nm)))) : Ev (tOp rEq te (tC (.str "mirror"))) σ H (Eqv (.bl (decide (k.nm = .mirror)))) := (ev_eq h ev_c rfl).eq (by rw [nm_mir])
theorem ev_plain (h : Ev te σ H (Eqv (.str (nmS k.nm)))) : Ev (tOp rEq te (tC (.str "plain"))) σ H (Eqv (.bl (decide (k.nm = .plain)))) := (ev_eq h ev_c rfl).eq (by rw [nm_plain])
theorem ev_isring (h : Ev te σ H (Eqv (.str (nmS k.nm)))) : Ev (tOp rEq te (tC (.str "ring"))) σ H (Eqv (.bl (decide (k.nm = .ring)))) := (ev_eq h ev_c rfl).eq (by rw [nm_ring])
/-! lists -/
theorem rgV_ints (a b : Int) : rgV a b = ((List.range (b - a).toNat).map fun i => a + ((i : Nat) : Int)).map V.int := by
  unfold rgV
  rw [List.map_map]
  rfl
/-- list(range(a, b)) -/
theorem ev_rg2 {a b : Int} {xs : List Int} (ha : Ev ta σ H (Eqv (.int a))) (hb : Ev tb σ H (Eqv (.int b))) (ok : RgOk a b) (e : ((List.range (b - a).toNat).map fun i => a + ((i : Nat) : Int)) = xs) : Ev (tLstRg (tRg2 ta tb)) σ H (Nu jLI H xs) := fun H1 e1 Q q =>
  ha H1 e1 _ fun v H2 e2 p1 => hb H2 (e1.trans e2) _ fun w H3 e3 p2 => by
    cases p1; cases p2
    refine ⟨a, b, rfl, rfl, ok, fun p hp => q _ _ ((e2.trans e3).trans (Evl.Ex.new hp)) ⟨p, rfl, ?_⟩⟩
    rw [newOf_new ((e1.trans e2).trans e3) hp, rgV_ints, e]
theorem ev_rg1 {b : Int} {xs : List Int} (hb : Ev tb σ H (Eqv (.int b))) (ok : RgOk 0 b) (e : ((List.range b.toNat).map fun i => ((i : Nat) : Int)) = xs) : Ev (tLstRg (tRg1 tb)) σ H (Nu jLI H xs) := fun H1 e1 Q q =>
  hb H1 e1 _ fun w H3 e3 p2 => by
    cases p2
    refine ⟨b, rfl, ok, fun p hp => q _ _ (e3.trans (Evl.Ex.new hp)) ⟨p, rfl, ?_⟩⟩
    rw [newOf_new (e1.trans e3) hp, rgV_ints, ← e, Int.sub_zero]
    exact congrArg some (congrArg HO.lst (congrArg (List.map V.int) (List.map_congr_left fun i _ => Int.zero_add _)))
/-- list(xs) of ints -/
theorem ev_listI {xs : List Int} {r : List V → Hp → VK → Prop} (hr : ∀ (p : Addr) (ys : List V) (H : Hp) (Q : VK), SqL K H p ys → (∀ l, H l = none → Q (.ref l) (upd H l (.lst ys))) → r [.ref p] H Q) (ha : Ev ta σ H (Is jLI xs)) : Ev (tCB r (tCons ta tNil)) σ H (Nu jLI H xs) :=
  ev_cb (ea_1 ha) fun vs H1 e ⟨v, ev, a, h1, h2⟩ Q q => by
    subst ev h1
    exact hr a _ H1 Q (jLI_sq h2) fun l hl => q _ _ (Evl.Ex.new hl) ⟨l, rfl, newOf_new e hl⟩
/-- list(xs) of data: the same items -/
theorem ev_listL {α : Type} {R : RP α} {xs : List α} {r : List V → Hp → VK → Prop} (hr : ∀ (p : Addr) (ys : List V) (H : Hp) (Q : VK), SqL K H p ys → (∀ l, H l = none → Q (.ref l) (upd H l (.lst ys))) → r [.ref p] H Q) (ha : Ev ta σ H (Is (jL R) xs)) : Ev (tCB r (tCons ta tNil)) σ H (Is (jL R) xs) :=
  ev_cb (ea_1 ha) fun vs H1 e ⟨v, ev, a, ws, h1, h2, h3⟩ Q q => by
    subst ev h1
    exact hr a _ H1 Q (.inl (.inl h2)) fun l hl => q _ _ (Evl.Ex.new hl) ⟨l, ws, rfl, upd_same, paired_mono (fun _ _ p => R.mono (Evl.Ex.new hl) p) h3⟩
/-- xs[j] = e, a list of ints -/
theorem s_setI {l : Addr} {xs : List Int} {j : Nat} {i z : Int} (hl : H l = some (.lst (xs.map V.int))) (h : Ev te σ H (Eqv (.int z))) (ho : Ev ta σ H (Eqv (.ref l))) (hi : Ev tb σ H (Eqv (.int i))) (ei : i = (j : Int)) (hj : j < xs.length)
    (k : ∀ H1, Ex H H1 → D.nx σ (upd H1 l (.lst ((xs.set j z).map V.int)))) : tAsg te (gSub ta tb rSetL) D σ H := h H (Evl.Ex.refl H) _ fun v H1 e1 p => ho H1 e1 _ fun o H2 e2 p2 => hi H2 (e1.trans e2) _ fun w H3 e3 p3 => by
  cases p; cases p2; cases p3
  subst ei
  refine ⟨l, _, (j : Int), j, rfl, rfl, ((e1.trans e2).trans e3) l _ hl, Evl.ixN_nat (by rw [List.length_map]; exact hj), ?_⟩
  rw [show (xs.map V.int).set j (V.int z) = (xs.set j z).map V.int by rw [List.map_set]]
  exact k H3 ((e1.trans e2).trans e3)
/-- xs[i], xs[j] = a, b -/
theorem s_set2I {l : Addr} {xs : List Int} {j1 j2 : Nat} {i1 i2 z1 z2 : Int} {to1 to2 ti1 ti2 : TE} (hl : H l = some (.lst (xs.map V.int))) (h1 : Ev ta σ H (Eqv (.int z1))) (h2 : Ev tb σ H (Eqv (.int z2)))
    (ho1 : ∀ H, Ev to1 σ H (Eqv (.ref l))) (hi1 : ∀ H, Ev ti1 σ H (Eqv (.int i1))) (ho2 : ∀ H, Ev to2 σ H (Eqv (.ref l))) (hi2 : ∀ H, Ev ti2 σ H (Eqv (.int i2))) (e1 : i1 = (j1 : Int)) (e2 : i2 = (j2 : Int)) (hj1 : j1 < xs.length) (hj2 : j2 < xs.length) (H0 : Hp) (h0 : Ex H0 H) (hl0 : H0 l = none)
    (k : ∀ H1, Ex H0 H1 → H1 l = some (.lst (((xs.set j1 z1).set j2 z2).map V.int)) → D.nx σ H1) :
    tAsg (tTup (tCons ta (tCons tb tNil))) (gTup K 2 (gCons (gSub to1 ti1 rSetL) (gCons (gSub to2 ti2 rSetL) gNil))) D σ H := by
  refine h1 H (Evl.Ex.refl H) _ fun v1 H1 x1 p1 => h2 H1 x1 _ fun v2 H2 x2 p2 => ?_
  cases p1; cases p2
  subst e1 e2
  refine ⟨Evl.sz_of (show 2 ≤ 100000 by decide), fun t ht => ⟨t, _, rfl, .inl (.inl upd_same), rfl, _, _, rfl, ?_⟩⟩
  have x3 : Ex H (upd H2 t (.tup [.int z1, .int z2])) := (x1.trans x2).trans (Evl.Ex.new ht)
  refine ho1 _ _ (Evl.Ex.refl _) _ fun o H4 x4 p3 => hi1 _ H4 (Evl.Ex.refl _) _ fun w H5 x5 p4 => ?_
  cases p3; cases p4
  refine ⟨l, _, (j1 : Int), j1, rfl, rfl, ((x3.trans x4).trans x5) l _ hl, Evl.ixN_nat (by rw [List.length_map]; exact hj1), ?_⟩
  rw [show (xs.map V.int).set j1 (V.int z1) = (xs.set j1 z1).map V.int by rw [List.map_set]]
  refine ⟨_, _, rfl, ?_⟩
  refine ho2 _ _ (Evl.Ex.refl _) _ fun o H6 x6 p5 => hi2 _ H6 (Evl.Ex.refl _) _ fun w H7 x7 p6 => ?_
  cases p5; cases p6
  refine ⟨l, _, (j2 : Int), j2, rfl, rfl, (x6.trans x7) l _ upd_same, Evl.ixN_nat (by rw [List.length_map, List.length_set]; exact hj2), ?_⟩
  rw [show ((xs.set j1 z1).map V.int).set j2 (V.int z2) = ((xs.set j1 z1).set j2 z2).map V.int from List.map_set.symm]
  refine ⟨rfl, k _ ?_ upd_same⟩
  refine ex_upd (Evl.Ex.trans ?_ (x6.trans x7)) hl0
  exact ex_upd (h0.trans ((x3.trans x4).trans x5)) hl0
theorem gI_some {o : List Int} {i : Nat} (h : i < o.length) : o[i]? = some (CX.gI o i) := by
  unfold CX.gI
  rw [List.getD_eq_getElem?_getD, List.getElem?_eq_getElem h]
  rfl
end
end SL
end
section
set_option Elab.async false
set_option linter.all false
set_option maxRecDepth 100000
set_option maxHeartbeats 4000000
set_option autoImplicit false
namespace SL
open PySem PySem.Spec PyProof.Rows L2
section
variable {P : Program} {w : World} {K : PySem.W.Frag} {mg : Str → Option Value} {base : Heap} {C : Addr}
abbrev Fd (K : PySem.W.Frag) (m q : Str) (st : Stmt) (f : Addr) (fd : FuncData) : Prop := FunD K m q (defArgs st) (defBody st) (defScope st) [] [] f fd
abbrev spName (C : Addr) : Sp := sp1 (jK C) jS (fun _ => True) (fun k r => r = nmS k.nm)
abbrev spSize (C : Addr) : Sp := sp1 (jK C) jN (fun _ => True) (fun k r => r = k.n)
abbrev spSteps (C : Addr) : Sp := sp1 (jK C) jN (fun k => k.good) (fun k r => r = k.steps)
abbrev spStart (C : Addr) : Sp := sp1 (jK C) jLI (fun k => k.good) (fun k r => r = k.start)
theorem m_name {f : Addr} {fd : FuncData} (T : Tp K mg C) (hm : Meth K C "name" f) (F : Fd K "name" "Kind.name" s_Kind_name f fd) : Mt P w K mg base C 1 "name" (spName C) := by
  refine mt_mk hm F sc_Kind_name (fun _ _ _ _ h => len1 h) (fun _ _ _ _ _ _ us hl => match us, hl with | [_], _ => rfl) (fun cdv A outer s H vs Q E hr h => ?_)
  obtain ⟨v, k, rfl, hk, _, q⟩ := h
  refine ⟨_, pss_one (ps_ret (pe_fld (pv 0) rfl)), ?_⟩
  exact s_ret (ev_fld T.cl T.nN (ev_var rfl hk) (kfl_name k)) fun v H1 e p => q v H1 _ e rfl p
theorem m_size {f : Addr} {fd : FuncData} (T : Tp K mg C) (hm : Meth K C "size" f) (F : Fd K "size" "Kind.size" s_Kind_size f fd) : Mt P w K mg base C 1 "size" (spSize C) := by
  refine mt_mk hm F sc_Kind_size (fun _ _ _ _ h => len1 h) (fun _ _ _ _ _ _ us hl => match us, hl with | [_], _ => rfl) (fun cdv A outer s H vs Q E hr h => ?_)
  obtain ⟨v, k, rfl, hk, _, q⟩ := h
  refine ⟨_, pss_one (ps_ret (pe_fld (pv 0) rfl)), ?_⟩
  exact s_ret (ev_fld T.cl T.nS (ev_var rfl hk) (kfl_size k)) fun v H1 e p => q v H1 _ e rfl p
theorem b2i (p : Prop) [Decidable p] : (if decide p = true then (1 : Int) else 0) = if p then 1 else 0 := by
  by_cases h : p
  · rw [decide_eq_true h, if_pos h]; rfl
  · rw [decide_eq_false h, if_neg h]; rfl
theorem m_steps {f : Addr} {fd : FuncData} (T : Tp K mg C) (hm : Meth K C "steps" f) (F : Fd K "steps" "Kind.steps" s_Kind_steps f fd) : Mt P w K mg base C 1 "steps" (spSteps C) := by
  refine mt_mk hm F sc_Kind_steps (fun _ _ _ _ h => len1 h) (fun _ _ _ _ _ _ us hl => match us, hl with | [_], _ => rfl) (fun cdv A outer s H vs Q E hr h => ?_)
  obtain ⟨v, k, rfl, hk, hg, q⟩ := h
  refine ⟨_, pss_one (ps_ret (pe_op op_sub (pe_fld (pv 0) rfl) (pe_callTy call_int1 (by rfl) T.int (by decide +kernel) (pa_cons (pe_cmpR op_eq (pe_fld (pv 0) rfl) pe_str (nomark _)) pa_nil)))), ?_⟩
  refine s_ret (ev_i0 (ev_fld T.cl T.nS (ev_var rfl hk) (kfl_size k)) (ev_intB (fun b H Q q => .inr ⟨b, rfl, q⟩) (ev_plain (ev_fld T.cl T.nN (ev_var rfl hk) (kfl_name k))))) fun v H1 e p => q v H1 _ e rfl ?_
  rw [show v = _ from p]
  refine congrArg V.int ?_
  rw [b2i]
  obtain ⟨nm, n⟩ := k
  cases nm
  · have h1 : 1 ≤ n ∧ n ≤ 7 := hg
    show (n : Int) - (if CX.Nm.plain = CX.Nm.plain then 1 else 0) = ((n - 1 : Nat) : Int)
    rw [if_pos rfl]
    omega
  · show (n : Int) - (if CX.Nm.mirror = CX.Nm.plain then 1 else 0) = ((n : Nat) : Int)
    rw [if_neg (fun e => nomatch e)]
    omega
  · show (n : Int) - (if CX.Nm.ring = CX.Nm.plain then 1 else 0) = ((n : Nat) : Int)
    rw [if_neg (fun e => nomatch e)]
    omega
theorem first_if (k : CX.Kd) : (if k.nm = .mirror then (1 : Int) else 0) = (k.first : Int) := by
  obtain ⟨nm, n⟩ := k
  cases nm <;> rfl
theorem n_le {k : CX.Kd} (hg : k.good) : 1 ≤ k.n ∧ k.n ≤ 7 := by
  obtain ⟨nm, n⟩ := k
  cases nm
  · exact hg
  · have h : 1 ≤ n ∧ n ≤ 5 := hg
    exact ⟨h.1, by show n ≤ 7; omega⟩
  · have h : 2 ≤ n ∧ n ≤ 5 := hg
    exact ⟨by show 1 ≤ n; omega, by show n ≤ 7; omega⟩
theorem start_rg (k : CX.Kd) : ((List.range (((k.first : Int) + (k.n : Int)) - (k.first : Int)).toNat).map fun i => (k.first : Int) + ((i : Nat) : Int)) = k.start := by
  rw [show (((k.first : Int) + (k.n : Int)) - (k.first : Int)).toNat = k.n by omega]
  unfold CX.Kd.start
  exact List.map_congr_left fun i _ => by omega
theorem first_le (k : CX.Kd) : k.first ≤ 1 := by
  obtain ⟨nm, n⟩ := k
  cases nm
  · exact Nat.zero_le _
  · exact Nat.le_refl _
  · exact Nat.zero_le _
theorem m_start {f : Addr} {fd : FuncData} (T : Tp K mg C) (hm : Meth K C "start" f) (F : Fd K "start" "Kind.start" s_Kind_start f fd) : Mt P w K mg base C 1 "start" (spStart C) := by
  refine mt_mk hm F sc_Kind_start (fun _ _ _ _ h => len1 h) (fun _ _ _ _ _ _ us hl => match us, hl with | [_], _ => rfl) (fun cdv A outer s H vs Q E hr h => ?_)
  obtain ⟨v, k, rfl, hk, hg, q⟩ := h
  refine ⟨_, (pss_cons (ps_set (i := 1) sc_Kind_start.nd rfl (.inl rfl) (pe_callTy call_int1 (by rfl) T.int (by decide +kernel) (pa_cons (pe_cmpR op_eq (pe_fld (pv 0) rfl) pe_str (nomark _)) pa_nil)))
      (pss_one (ps_ret (pe_listRg rfl (by rfl) T.list (prg_2 (by rfl) T.range (pv 1) (pe_op op_add (pv 1) (pe_fld (pv 0) rfl))))))), ?_⟩
  refine q_set ((ev_intB (fun b H Q q => .inr ⟨b, rfl, q⟩) (ev_mir (ev_fld T.cl T.nN (ev_var rfl hk) (kfl_name k)))).eq (by rw [b2i, first_if])) fun v1 H1 e1 p1 => ?_
  cases p1
  have hk1 := (jK C).mono e1 hk
  have hn := n_le hg
  have hf := first_le k
  exact s_ret (ev_rg2 (ev_v rfl) (ev_i0 (ev_v rfl) (ev_fld T.cl T.nS (ev_var rfl hk1) (kfl_size k))) (.of_le (by omega) (by omega) (by omega) (by omega)) (start_rg k)) fun v H2 e2 p => q v H2 _ (e1.trans e2) rfl (p.back e1)

section
variable {σ : L2.St} {H : Hp} {ta : TE} {k : CX.Kd} {E : XK} {b : Bool}
theorem ev_nm (h : Ev ta σ H (Is (jK C) k)) : Ev (tMeth C "name" (spName C) [] E ta tNil) σ H (Eqv (.str (nmS k.nm))) := nuS (ev_mt (m := "name") h trivial)
theorem ev_size (h : Ev ta σ H (Is (jK C) k)) : Ev (tMeth C "size" (spSize C) [] E ta tNil) σ H (Eqv (.int k.n)) := nuN (ev_mt (m := "size") h trivial)
theorem ev_steps (h : Ev ta σ H (Is (jK C) k)) (hg : k.good) : Ev (tMeth C "steps" (spSteps C) [] E ta tNil) σ H (Eqv (.int k.steps)) := nuN (ev_mt (m := "steps") h hg)
theorem ev_start (h : Ev ta σ H (Is (jK C) k)) (hg : k.good) : Ev (tMeth C "start" (spStart C) [] E ta tNil) σ H (Nu jLI H k.start) := nu1 (ev_mt (m := "start") h hg)
theorem et_nmM (h : Ev ta σ H (Is (jK C) k)) (e : decide (k.nm = .mirror) = b := by rfl) : EvT (tTest (tOp rEq (tMeth C "name" (spName C) [] E ta tNil) (tC (.str "mirror")))) σ H b := (et_mir (ev_nm h)).eq e
theorem et_nmR (h : Ev ta σ H (Is (jK C) k)) (e : decide (k.nm = .ring) = b := by rfl) : EvT (tTest (tOp rEq (tMeth C "name" (spName C) [] E ta tNil) (tC (.str "ring")))) σ H b := (et_ring (ev_nm h)).eq e
theorem et_nmP (h : Ev ta σ H (Is (jK C) k)) (e : decide (k.nm = .plain) = b := by rfl) : EvT (tTest (tOp rEq (tMeth C "name" (spName C) [] E ta tNil) (tC (.str "plain")))) σ H b := (et_plain (ev_nm h)).eq e
theorem ev_nmM (h : Ev ta σ H (Is (jK C) k)) (e : decide (k.nm = .mirror) = b := by rfl) : Ev (tOp rEq (tMeth C "name" (spName C) [] E ta tNil) (tC (.str "mirror"))) σ H (Eqv (.bl b)) := (ev_mir (ev_nm h)).eq (by rw [e])
end
/-! ### check_kind, is_crossed, by_step -/
abbrev spCk (C : Addr) : Sp := fun vs H Q _ => ∃ v k, vs = [v] ∧ (jK C).r H v k ∧ ∀ H', Ex H H' → Q .non H'
theorem c_check_kind (T : Tp K mg C) (D : Dfn K mg "check_kind" s_check_kind) : Cal P w K mg base 1 "check_kind" p_check_kind (spCk C) := by
  refine cal_mk D sc_check_kind (fun _ _ _ _ h => by obtain ⟨_, _, rfl, _⟩ := h; rfl) (fun _ _ _ _ _ _ us hl => match us, hl with | [_], _ => rfl) (fun f cdv A outer s H vs Q E hr h => ?_)
  obtain ⟨v, k, rfl, hk, q⟩ := h
  refine ⟨_, (pss_one (ps_if (pt_not (pt_val (pe_callB (C8.call_isC T.isC) (by rfl) T.isinstance (by decide +kernel) (pa_cons (pv 0) (pa_cons (pe_glob (v := .ref C) rfl T.mgC rfl) pa_nil))))) (pss_one ps_never) pss_nil)), ?_⟩
  refine s_skip (et_not (a := true) (et_B ?_)) fun H1 e1 => q H1 e1
  exact ev_cb (ea_2 (ev_var (P := Is (jK C) k) rfl hk) ev_c) fun vs H1 e ⟨v, w, ev, ⟨a, dx, h1, h2⟩, p2⟩ Q q => by
    subst ev h1
    cases p2
    exact ⟨a, dx, _, rfl, h2, q _ H1 (Evl.Ex.refl _) rfl⟩
abbrev preS (k : CX.Kd) (o : List Int) (s : Nat) : Prop := k.good ∧ o.length = k.n ∧ s < k.steps
abbrev spCrossed (C : Addr) : Sp := sp3 (jK C) jLI jN jB preS (fun k o s r => r = CX.fallK k o s)
theorem steps_le (k : CX.Kd) : k.steps ≤ k.n := by
  obtain ⟨nm, n⟩ := k
  cases nm
  · exact Nat.sub_le _ _
  · exact Nat.le_refl _
  · exact Nat.le_refl _
theorem c_is_crossed (T : Tp K mg C) (D : Dfn K mg "is_crossed" s_is_crossed) (m_name : Mt P w K mg base C 1 "name" (spName C)) : Cal P w K mg base 2 "is_crossed" p_is_crossed (spCrossed C) := by
  refine cal_mk D sc_is_crossed (fun _ _ _ _ h => len3 h) (fun _ _ _ _ _ _ us hl => match us, hl with | [_, _, _], _ => rfl) (fun f cdv A outer s H vs Q E hr h => ?_)
  obtain ⟨v1, v2, v3, k, o, st, rfl, hk, ho, hs, ⟨hg, hl, hst⟩, q⟩ := h
  have hr' := hr.mono (j := 1) (by decide)
  refine ⟨_, (pss_cons (ps_if (pt_cmpR op_eq (pe_mt m_name T.cl hr' (pv 0)) pe_str (nomark _)) (pss_one (ps_ret (pe_ifExp (pt_cmpR op_eq (pv 2) pe_int (nomark _)) (pe_cmpR op_lt (pe_ix ix_list (pv 1) pe_int (fun _ _ => rfl)) pe_int (nomark _)) (pe_cmpR op_gt (pe_ix ix_list (pv 1) (pe_op op_sub (pv 2) pe_int) (fun _ _ => rfl)) (pe_ix ix_list (pv 1) (pv 2) (fun _ _ => rfl)) (nomark _))))) pss_nil)
      (pss_cons (ps_if (PW.pt (pw_and (pt_cmpR op_eq (pe_mt m_name T.cl hr' (pv 0)) pe_str (nomark _)) (pw_and1 (pt_cmpR op_eq (pv 2) (pe_op op_sub (pe_callB call_len_seq (by rfl) T.len (by decide +kernel) (pa_cons (pv 1) pa_nil)) pe_int) (nomark _))))) (pss_one (ps_ret (pe_cmpR op_gt (pe_ix ix_list (pv 1) (pv 2) (fun _ _ => rfl)) (pe_op op_add (pe_ix ix_list (pv 1) pe_int (fun _ _ => rfl)) (pe_callB call_len_seq (by rfl) T.len (by decide +kernel) (pa_cons (pv 1) pa_nil))) (nomark _)))) pss_nil)
      (pss_one (ps_ret (pe_cmpR op_gt (pe_ix ix_list (pv 1) (pv 2) (fun _ _ => rfl)) (pe_ix ix_list (pv 1) (pe_op op_add (pv 2) pe_int) (fun _ _ => rfl)) (nomark _)))))), ?_⟩
  have hn := n_le hg
  have hle := steps_le k
  have lenr : ∀ (p : Addr) (ys : List V) (H : Hp) (Q : VK), SqL K H p ys → Q (.int ys.length) H → (fun (xs : List V) (H : Hp) (Q : VK) => ∃ p ys, xs = [.ref p] ∧ (SqL K H p ys ∨ SqT K H p ys) ∧ Q (.int ys.length) H) [.ref p] H Q := fun p ys H Q h q => ⟨p, ys, rfl, .inl h, q⟩
  have ix : ∀ (H1 : Hp) (e : Ex H H1) (te : TE) (i : Int) (j : Nat), Ev te (L2.start N_is_crossed [v1, v2, v3]) H1 (Eqv (.int i)) → i = (j : Int) → j < o.length → Ev (tOp (rIxL K) (tVar 1) te) (L2.start N_is_crossed [v1, v2, v3]) H1 (Eqv (.int (CX.gI o j))) := fun H1 e te i j h ei hj => ev_ixI (ev_var rfl (jLI.mono e ho)) h ei (gI_some hj)
  cases hs
  obtain ⟨nm, n⟩ := k
  have hl2 : o.length = n := hl
  have hn2 : 1 ≤ n ∧ n ≤ 7 := hn
  have hs2 : st < CX.Kd.steps ⟨nm, n⟩ := hst
  cases nm with
  | mirror =>
    have hs3 : st < n := hs2
    refine q_yes (et_nmM (ev_var rfl hk)) fun H1 e1 => ?_
    refine s_ret (P := Eqv (.bl (CX.fallK ⟨.mirror, n⟩ o st))) ?_ fun v H2 e2 p => q v H2 _ (e1.trans e2) rfl p
    by_cases c : st = 0
    · refine (ev_yes ((et_eqI (ev_v rfl) ev_c).eq (decide_eq_true (by omega))) (ev_i0 (ix H1 e1 _ _ 0 ev_c rfl (by omega)) ev_c)).eq ?_
      subst c
      rfl
    · refine (ev_no ((et_eqI (ev_v rfl) ev_c).eq (decide_eq_false (by omega))) (ev_i0 (ix H1 e1 _ _ (st - 1) (ev_i0 (ev_v rfl) ev_c) (by omega) (by omega)) (ix H1 e1 _ _ st (ev_v rfl) rfl (by omega)))).eq ?_
      show V.bl _ = V.bl (if st = 0 then _ else _)
      rw [if_neg c]
  | ring =>
    have hs3 : st < n := hs2
    refine q_skip (et_nmM (ev_var rfl hk)) fun H1 e1 => ?_
    have hk1 := (jK C).mono e1 hk
    have ho1 := jLI.mono e1 ho
    by_cases c : st + 1 = n
    · refine q_yes (et_and1 (et_nmR (ev_var rfl hk1)) ((et_eqI (ev_v rfl) (ev_i0 (ev_lenI lenr (ev_var rfl ho1)) ev_c)).eq (decide_eq_true (by omega)))) fun H2 e2 => ?_
      refine s_ret (P := Eqv (.bl (CX.fallK ⟨.ring, n⟩ o st))) ?_ fun v H3 e3 p => q v H3 _ ((e1.trans e2).trans e3) rfl p
      refine (ev_i0 (ix H2 (e1.trans e2) _ _ st (ev_v rfl) rfl (by omega)) (ev_i0 (ix H2 (e1.trans e2) _ _ 0 ev_c rfl (by omega)) (ev_lenI lenr (ev_var rfl (jLI.mono e2 ho1))))).eq ?_
      show V.bl _ = V.bl (if st + 1 = o.length then _ else _)
      rw [if_pos (by omega)]
    · refine q_skip (et_and1 (et_nmR (ev_var rfl hk1)) ((et_eqI (ev_v rfl) (ev_i0 (ev_lenI lenr (ev_var rfl ho1)) ev_c)).eq (decide_eq_false (by omega)))) fun H2 e2 => ?_
      refine s_ret (P := Eqv (.bl (CX.fallK ⟨.ring, n⟩ o st))) ?_ fun v H3 e3 p => q v H3 _ ((e1.trans e2).trans e3) rfl p
      refine (ev_i0 (ix H2 (e1.trans e2) _ _ st (ev_v rfl) rfl (by omega)) (ix H2 (e1.trans e2) _ _ (st + 1) (ev_i0 (ev_v rfl) ev_c) (by omega) (by omega))).eq ?_
      show V.bl _ = V.bl (if st + 1 = o.length then _ else _)
      rw [if_neg (by omega)]
  | plain =>
    have hs3 : st < n - 1 := hs2
    refine q_skip (et_nmM (ev_var rfl hk)) fun H1 e1 => ?_
    have hk1 := (jK C).mono e1 hk
    refine q_skip (et_and0 (et_nmR (ev_var rfl hk1))) fun H2 e2 => ?_
    refine s_ret (P := Eqv (.bl (CX.fallK ⟨.plain, n⟩ o st))) ?_ fun v H3 e3 p => q v H3 _ ((e1.trans e2).trans e3) rfl p
    exact ev_i0 (ix H2 (e1.trans e2) _ _ st (ev_v rfl) rfl (by omega)) (ix H2 (e1.trans e2) _ _ (st + 1) (ev_i0 (ev_v rfl) ev_c) (by omega) (by omega))
end
end SL
end
section
set_option Elab.async false
set_option linter.all false
set_option maxRecDepth 100000
set_option maxHeartbeats 4000000
set_option autoImplicit false
/-! Comprehensions and loops over typed data. -/
namespace SL
open PySem PySem.Spec PyProof.Rows L2
theorem jLI_L {H : Hp} {v : V} {xs : List Int} (h : jLI.r H v xs) : (jL jI).r H v xs := by
  obtain ⟨a, h1, h2⟩ := h
  exact ⟨a, _, h1, h2, paired_ofInt xs⟩
theorem jL_LI {H : Hp} {v : V} {xs : List Int} (h : (jL jI).r H v xs) : jLI.r H v xs := by
  obtain ⟨a, vs, h1, h2, h3⟩ := h
  exact ⟨a, h1, by rw [h2, paired_int h3]⟩
theorem paired_nat : ∀ {vs : List V} {xs : List Nat}, Paired (fun v x => v = V.int ((x : Nat) : Int)) vs xs → vs = (xs.map fun (n : Nat) => (n : Int)).map V.int
  | _, _, .nil => rfl
  | _, _, .cons r t => by rw [List.map_cons, List.map_cons, ← paired_nat t, r]
theorem paired_ofNat : ∀ (xs : List Nat), Paired (fun v (x : Nat) => v = V.int (x : Int)) (xs.map fun (n : Nat) => V.int (n : Int)) xs
  | [] => .nil
  | _ :: xs => .cons rfl (paired_ofNat xs)
/-- a list of steps is a list of ints -/
theorem jLN_LI {H : Hp} {v : V} {xs : List Nat} (h : (jL jN).r H v xs) : jLI.r H v (xs.map fun (n : Nat) => (n : Int)) := by
  obtain ⟨a, vs, h1, h2, h3⟩ := h
  exact ⟨a, h1, by rw [h2, paired_nat h3]⟩
theorem jLI_LN {H : Hp} {v : V} {xs : List Nat} (h : jLI.r H v (xs.map fun (n : Nat) => (n : Int))) : (jL jN).r H v xs := by
  obtain ⟨a, h1, h2⟩ := h
  exact ⟨a, _, h1, h2, by rw [List.map_map]; exact paired_ofNat xs⟩
/-- what a comprehension holds so far -/
def Cw {β : Type} (S : RP β) (H : Hp) (Dl : Addr) (H' : Hp) (ys : List β) : Prop := ∃ acc, H' Dl = some (.lst acc) ∧ Paired (S.r (nw H Dl H')) acc ys
theorem Cw.nil {β : Type} {S : RP β} {H H1 : Hp} {Dl : Addr} : Cw S H Dl (upd H1 Dl (.lst [])) [] := ⟨[], upd_same, .nil⟩
theorem Cw.mono {β : Type} {S : RP β} {H H1 H2 : Hp} {Dl : Addr} {ys : List β} (e : Ex H1 H2) (h : Cw S H Dl H1 ys) : Cw S H Dl H2 ys := by
  obtain ⟨acc, h1, h2⟩ := h
  exact ⟨acc, e _ _ h1, paired_mono (fun _ _ p => S.mono (nw_mono e) p) h2⟩
theorem Cw.put {β : Type} {S : RP β} {H H1 : Hp} {Dl : Addr} {acc : List V} {ys : List β} {v : V} {y : β} (h1 : H1 Dl = some (.lst acc)) (h2 : Paired (S.r (nw H Dl H1)) acc ys) (hv : S.r (nw H Dl H1) v y) : Cw S H Dl (upd H1 Dl (.lst (acc ++ [v]))) (ys ++ [y]) :=
  ⟨_, upd_same, paired_snoc (paired_mono (fun _ _ p => S.mono nw_upd p) h2) (S.mono nw_upd hv)⟩
theorem Cw.done {β : Type} {S : RP β} {H H1 : Hp} {Dl : Addr} {ys : List β} (h0 : H Dl = none) (h : Cw S H Dl H1 ys) : Nu (jL S) H ys (.ref Dl) H1 := by
  obtain ⟨acc, h1, h2⟩ := h
  exact jL_new h0 h1 (paired_mono (fun _ _ p => S.mono nw_new p) h2)
theorem paired_len {α : Type} {F : V → α → Prop} {vs : List V} {xs : List α} (p : Paired F vs xs) : vs.length = xs.length := Paired.length p
theorem take_filter_yes {α β : Type} {xs : List α} {f : α → Bool} {g : α → β} {i : Nat} {x : α} (h : xs[i]? = some x) (hf : f x = true) : ((xs.take (i + 1)).filter f).map g = ((xs.take i).filter f).map g ++ [g x] := by
  rw [List.take_add_one, h, List.filter_append, List.map_append]
  congr 1
  show ([x].filter f).map g = [g x]
  rw [List.filter_cons, if_pos hf]
  rfl
theorem take_filter_no {α β : Type} {xs : List α} {f : α → Bool} {g : α → β} {i : Nat} {x : α} (h : xs[i]? = some x) (hf : f x = false) : ((xs.take (i + 1)).filter f).map g = ((xs.take i).filter f).map g := by
  rw [List.take_add_one, h, List.filter_append, List.map_append]
  show _ ++ ([x].filter f).map g = _
  rw [List.filter_cons, if_neg (by rw [hf]; exact Bool.false_ne_true)]
  exact List.append_nil _
section
variable {K : PySem.W.Frag} {σ : L2.St} {H H' : Hp} {ta tb tc td te tl : TE} {tt tu : TT} {x y z v : V} {P P' P1 P2 P3 : V → Hp → Prop} {D : Ends} {ts tw tz : TS} {i j : Nat} {C : Addr} {k : CX.Kd} {α β : Type} {R : RP α} {S : RP β} {vs : List Nat}
theorem et_yes : EvT tYes σ H true := fun H1 e Q q => q H1 (Evl.Ex.refl H1)
/-- [e for x in xs if t] -/
theorem ev_lc {xs : List α} (f : α → Bool) (g : α → β) (h : Ev tl σ H (Is (jL R) xs)) (hz : xs.length ≤ 40000) (hw : ∀ x, wipe ((wipe σ vs).set j (some x)) vs = wipe σ vs)
    (ht : ∀ (i : Nat) (x : α) (v : V) (H3 : Hp), Ex H H3 → xs[i]? = some x → R.r H3 v x → EvT tt ((wipe σ vs).set j (some v)) H3 (f x))
    (he : ∀ (i : Nat) (x : α) (v : V) (H3 : Hp), Ex H H3 → xs[i]? = some x → R.r H3 v x → f x = true → Ev te ((wipe σ vs).set j (some v)) H3 (Nu S H3 (g x))) :
    Ev (tLc (iList K tl) (gName j) tt te vs) σ H (Nu (jL S) H ((xs.filter f).map g)) := fun H0 e0 Q q => h H0 e0 _ fun v H1 e1 ⟨a, ws, ev, ha, hp⟩ => by
  subst ev
  refine ⟨a, rfl, ⟨ws, .inl (.inl ha)⟩, fun Dl hD => ?_⟩
  refine lc_list (xs := ws) (fun i H' => Ex H1 H' ∧ Cw S H Dl H' (((xs.take i).filter f).map g)) ⟨Evl.Ex.new hD, Cw.nil⟩ (fun i H' _ p => .inl (.inl (p.1 _ _ ha))) (fun i w H' hi p => ⟨hw w, ?_⟩) (fun H' p => ?_)
  · obtain ⟨x, hx, rx⟩ := paired_get hp hi
    have e' := (e0.trans e1).trans p.1
    have rx' := R.mono p.1 rx
    have hne : H' Dl ≠ none := by
      obtain ⟨acc, c1, _⟩ := p.2
      rw [c1]; exact fun z => nomatch z
    have t2 := ht i x w H' e' hx rx'
    refine t2 H' (Evl.Ex.refl H') _ fun H3 e3 => ?_
    cases hf : f x with
    | true =>
      refine L2.iteT (he i x w H' e' hx rx' hf H3 e3 _ fun y H4 e4 py => ?_)
      obtain ⟨acc, c1, c2⟩ := p.2.mono (e3.trans e4)
      have hl := paired_len c2
      refine ⟨acc, c1, Evl.sz_lt ?_, ex_upd ((p.1.trans e3).trans e4) hD, ?_⟩
      · have h1 : (((xs.take i).filter f).map g).length ≤ xs.length := by
          rw [List.length_map]
          exact Nat.le_trans (List.length_filter_le _ _) (by rw [List.length_take]; omega)
        omega
      · rw [take_filter_yes hx hf]
        exact Cw.put c1 c2 (S.mono (nw_of e' hne) py)
    | false =>
      refine L2.iteF ⟨p.1.trans e3, ?_⟩
      rw [take_filter_no hx hf]
      exact p.2.mono e3
  · have hl := paired_len hp
    have c := p.2
    rw [hl, List.take_length] at c
    exact q _ H' (e1.trans p.1) (c.done (fresh0 (e0.trans e1) hD))
/-- [e for x in range(n) if t] -/
theorem ev_lcR {n : Nat} (f : Nat → Bool) (g : Nat → β) (h : Ev ta σ H (Eqv (.int n))) (hz : n ≤ 40000) (hw : ∀ x, wipe ((wipe σ vs).set j (some x)) vs = wipe σ vs)
    (ht : ∀ (i : Nat) (H3 : Hp), Ex H H3 → i < n → EvT tt ((wipe σ vs).set j (some (.int (i : Int)))) H3 (f i))
    (he : ∀ (i : Nat) (H3 : Hp), Ex H H3 → i < n → f i = true → Ev te ((wipe σ vs).set j (some (.int (i : Int)))) H3 (Nu S H3 (g i))) :
    Ev (tLc (iRng1 (tCons ta tNil)) (gName j) tt te vs) σ H (Nu (jL S) H (((List.range n).filter f).map g)) := fun H0 e0 Q q => h H0 e0 _ fun v H1 e1 ev => by
  cases ev
  refine ⟨(n : Int), rfl, by omega, by omega, fun Dl hD => ?_⟩
  refine lc_range (lo := 0) (n := (n : Int).toNat) (fun i H' => Ex H1 H' ∧ Cw S H Dl H' ((((List.range n).take i).filter f).map g)) ⟨Evl.Ex.new hD, Cw.nil⟩ (fun i H' hi p => ?_) (fun H' p => ?_)
  · have hin : i < n := by omega
    have hx : (List.range n)[i]? = some i := by rw [List.getElem?_range hin]
    have e' := (e0.trans e1).trans p.1
    have hne : H' Dl ≠ none := by
      obtain ⟨acc, c1, _⟩ := p.2
      rw [c1]; exact fun z => nomatch z
    rw [show (0 : Int) + (i : Int) = (i : Int) by omega]
    refine ⟨hw _, ?_⟩
    refine ht i H' e' hin H' (Evl.Ex.refl H') _ fun H3 e3 => ?_
    cases hf : f i with
    | true =>
      refine L2.iteT (he i H' e' hin hf H3 e3 _ fun y H4 e4 py => ?_)
      obtain ⟨acc, c1, c2⟩ := p.2.mono (e3.trans e4)
      have hl := paired_len c2
      refine ⟨acc, c1, Evl.sz_lt ?_, ex_upd ((p.1.trans e3).trans e4) hD, ?_⟩
      · have h1 : ((((List.range n).take i).filter f).map g).length ≤ n := by
          rw [List.length_map]
          exact Nat.le_trans (List.length_filter_le _ _) (by rw [List.length_take, List.length_range]; omega)
        omega
      · rw [take_filter_yes hx hf]
        exact Cw.put c1 c2 (S.mono (nw_of e' hne) py)
    | false =>
      refine L2.iteF ⟨p.1.trans e3, ?_⟩
      rw [take_filter_no hx hf]
      exact p.2.mono e3
  · have c := p.2
    rw [show (n : Int).toNat = n by omega, List.take_of_length_le (by rw [List.length_range]; exact Nat.le_refl _)] at c
    exact q _ H' (e1.trans p.1) (c.done (fresh0 (e0.trans e1) hD))
/-! loops -/
/-- for x in xs, over a list that stands (old) -/
theorem s_forO {xs : List α} (h : Ev tl σ H (Is (jL R) xs)) (Pv : Nat → L2.St → Hp → Prop) (h0 : ∀ H1, Ex H H1 → Pv 0 σ H1) (hl : ∀ (a : Addr) (ws : List V) (H1 : Hp), Ex H H1 → H1 a = some (.lst ws) → ∀ i σ' H', i ≤ xs.length → Pv i σ' H' → SqL K H' a ws)
    (hs : ∀ (i : Nat) (x : α) (v : V) (H1 : Hp), Ex H H1 → R.r H1 v x → xs[i]? = some x → ∀ σ' H', Pv i σ' H' → ts { D with nx := Pv (i + 1), ct := Pv (i + 1), bk := D.nx } (σ'.set j (some v)) H') (hd : ∀ σ' H', Pv xs.length σ' H' → D.nx σ' H') : tFor (iList K tl) (gName j) ts D σ H :=
  h H (Evl.Ex.refl H) _ fun v H1 e ⟨a, ws, ev, ha, hp⟩ => by
    subst ev
    have hlen := paired_len hp
    refine ⟨a, rfl, ⟨ws, .inl (.inl ha)⟩, for_list Pv (h0 H1 e) (fun i σ' H' hi p => hl a ws H1 e ha i σ' H' (by omega) p) (fun i w σ' H' hi p => ?_) (by rw [hlen]; exact hd)⟩
    obtain ⟨x, hx, rx⟩ := paired_get hp hi
    exact hs i x w H1 e rx hx σ' H' p
end
end SL
end
section
set_option Elab.async false
set_option linter.all false
set_option maxRecDepth 100000
set_option maxHeartbeats 4000000
set_option autoImplicit false
namespace SL
open PySem PySem.Spec PyProof.Rows L2
section
variable {P : Program} {w : World} {K : PySem.W.Frag} {mg : Str → Option Value} {base : Heap} {C : Addr}

theorem lenR : ∀ (p : Addr) (ys : List V) (H : Hp) (Q : VK), SqL K H p ys → Q (.int ys.length) H → (fun (xs : List V) (H : Hp) (Q : VK) => ∃ p ys, xs = [.ref p] ∧ (SqL K H p ys ∨ SqT K H p ys) ∧ Q (.int ys.length) H) [.ref p] H Q := fun p ys H Q h q => ⟨p, ys, rfl, .inl h, q⟩
theorem lisR : ∀ (p : Addr) (ys : List V) (H : Hp) (Q : VK), SqL K H p ys → (∀ l, H l = none → Q (.ref l) (upd H l (.lst ys))) → (fun (xs : List V) (H : Hp) (Q : VK) => ∃ p ys, xs = [.ref p] ∧ (SqL K H p ys ∨ SqT K H p ys) ∧ ∀ l, H l = none → Q (.ref l) (upd H l (.lst ys))) [.ref p] H Q := fun p ys H Q h q => ⟨p, ys, rfl, .inl h, q⟩
theorem nuLI {H0 H : Hp} {xs : List Int} {v : V} (h : Nu jLI H0 xs v H) : ∃ p, v = .ref p ∧ H0 p = none ∧ H p = some (.lst (xs.map V.int)) := by
  obtain ⟨p, e, h1⟩ := h
  obtain ⟨h2, h3⟩ := newOf_some h1
  exact ⟨p, e, h2, h3⟩
theorem mapLI {H : Hp} {p : Addr} {xs : List Int} (h : H p = some (.lst (xs.map V.int))) : jLI.r H (.ref p) xs := ⟨p, rfl, h⟩
/-! ### by_step -/
abbrev spBy (C : Addr) : Sp := sp3 (jK C) jLI jN jLI preS (fun k o s r => r = CX.byK k o s)
theorem c_by_step (T : Tp K mg C) (D : Dfn K mg "by_step" s_by_step) (m_name : Mt P w K mg base C 1 "name" (spName C)) : Cal P w K mg base 2 "by_step" p_by_step (spBy C) := by
  refine cal_mk D sc_by_step (fun _ _ _ _ h => len3 h) (fun _ _ _ _ _ _ us hl => match us, hl with | [_, _, _], _ => rfl) (fun f cdv A outer s H vs Q E hr h => ?_)
  obtain ⟨v1, v2, v3, k, o, st, rfl, hk, ho, hs, ⟨hg, hl, hst⟩, q⟩ := h
  have hr' := hr.mono (j := 1) (by decide)
  refine ⟨_, (pss_cons (ps_set (i := 3) sc_by_step.nd rfl (.inl rfl) (pe_callTy call_list_of (by rfl) T.list (by decide +kernel) (pa_cons (pv 1) pa_nil)))
      (pss_cons (ps_if (PW.pt (pw_and (pt_cmpR op_eq (pe_mt m_name T.cl hr' (pv 0)) pe_str (nomark _)) (pw_and1 (pt_cmpR op_eq (pv 2) pe_int (nomark _))))) (pss_one (ps_asg (pe_un un_neg (pe_ix ix_list (pv 3) pe_int (fun _ _ => rfl))) (pg_sub (pv 3) pe_int set_list))) (pss_one (ps_if (PW.pt (pw_and (pt_cmpR op_eq (pe_mt m_name T.cl hr' (pv 0)) pe_str (nomark _)) (pw_and1 (pt_cmpR op_eq (pv 2) (pe_op op_sub (pe_callB call_len_seq (by rfl) T.len (by decide +kernel) (pa_cons (pv 1) pa_nil)) pe_int) (nomark _))))) (pss_one (ps_asg (pe_tup (pa_cons (pe_op op_sub (pe_ix ix_list (pv 1) (pv 2) (fun _ _ => rfl)) (pe_callB call_len_seq (by rfl) T.len (by decide +kernel) (pa_cons (pv 1) pa_nil))) (pa_cons (pe_op op_add (pe_ix ix_list (pv 1) pe_int (fun _ _ => rfl)) (pe_callB call_len_seq (by rfl) T.len (by decide +kernel) (pa_cons (pv 1) pa_nil))) pa_nil))) (pg_tup rfl (pgs_cons (pg_sub (pv 3) pe_int set_list) (pgs_cons (pg_sub (pv 3) (pv 2) set_list) pgs_nil))))) (pss_cons (ps_set (i := 4) sc_by_step.nd rfl (.inl rfl) (pe_op op_sub (pv 2) (pe_callTy call_int1 (by rfl) T.int (by decide +kernel) (pa_cons (pe_cmpR op_eq (pe_mt m_name T.cl hr' (pv 0)) pe_str (nomark _)) pa_nil))))
      (pss_one (ps_asg (pe_tup (pa_cons (pe_ix ix_list (pv 1) (pe_op op_add (pv 4) pe_int) (fun _ _ => rfl)) (pa_cons (pe_ix ix_list (pv 1) (pv 4) (fun _ _ => rfl)) pa_nil))) (pg_tup rfl (pgs_cons (pg_sub (pv 3) (pv 4) set_list) (pgs_cons (pg_sub (pv 3) (pe_op op_add (pv 4) pe_int) set_list) pgs_nil)))))))))
      (pss_one (ps_ret (pv 3))))), ?_⟩
  cases hs
  refine q_set (ev_listI lisR (ev_var rfl ho)) fun v H1 e1 p1 => ?_
  obtain ⟨p, rfl, hp0, hp⟩ := nuLI p1
  have hk1 := (jK C).mono e1 hk
  have ho1 := jLI.mono e1 ho
  have hn := n_le hg
  have hle := steps_le k
  have fin : ∀ (H2 : Hp) (r : List Int) (σ : L2.St), Ex H H2 → H2 p = some (.lst (r.map V.int)) → r = CX.byK k o st → σ[3]? = some (some (V.ref p)) → tRet (tVar 3) { nx := fun x H' => Q V.non H', rt := Q } σ H2 := fun H2 r σ e2 h2 er h3 =>
    s_ret (ev_v h3) fun v H3 e3 pv => by
      cases pv
      exact q _ H3 _ (e2.trans e3) er (jLI_new hp0 (e3 _ _ h2))
  obtain ⟨nm, n⟩ := k
  have hl2 : o.length = n := hl
  have hn2 : 1 ≤ n ∧ n ≤ 7 := hn
  have hs2 : st < CX.Kd.steps ⟨nm, n⟩ := hst
  cases nm with
  | mirror =>
    have hs3 : st < n := hs2
    by_cases c : st = 0
    · refine q_yes (et_and1 (et_nmM (ev_var rfl hk1)) ((et_eqI (ev_v rfl) ev_c).eq (decide_eq_true (by omega)))) fun H2 e2 => ?_
      refine s_setI (xs := o) (j := 0) (e2 _ _ hp) (ev_u (ev_ixI (j := 0) (ev_var rfl (mapLI (e2 _ _ hp))) ev_c rfl (gI_some (by omega)))) (ev_v rfl) ev_c rfl (by omega) fun H3 e3 => ?_
      refine fin _ _ _ (ex_upd ((e1.trans e2).trans e3) hp0) upd_same ?_ rfl
      subst c
      rfl
    · refine q_no (et_and1 (et_nmM (ev_var rfl hk1)) ((et_eqI (ev_v rfl) ev_c).eq (decide_eq_false (by omega)))) fun H2 e2 => ?_
      have hk2 := (jK C).mono e2 hk1
      have ho2 := jLI.mono e2 ho1
      refine s_no (et_and0 (et_nmR (ev_var rfl hk2))) fun H3 e3 => ?_
      refine q_set (P := Eqv (.int ((st - 1 : Nat) : Int))) ((ev_i0 (ev_v rfl) (ev_intB (fun b H Q q => .inr ⟨b, rfl, q⟩) (ev_nmM (b := true) (ev_var rfl ((jK C).mono e3 hk2))))).eq (congrArg V.int (by show (st : Int) - 1 = _; omega))) fun v4 H4 e4 p4 => ?_
      cases p4
      have ho4 := jLI.mono (e3.trans e4) ho2
      refine s_set2I (xs := o) (j1 := st - 1) (j2 := st) (((e2.trans e3).trans e4) _ _ hp) (ev_ixI (j := st) (ev_var rfl ho4) (ev_i0 (ev_v rfl) ev_c) (by omega) (gI_some (by omega))) (ev_ixI (j := st - 1) (ev_var rfl ho4) (ev_v rfl) rfl (gI_some (by omega))) (fun _ => ev_v rfl) (fun _ => ev_v rfl) (fun _ => ev_v rfl) (fun _ => ev_i0 (ev_v rfl) ev_c) rfl (by omega) (by omega) (by omega) H (((e1.trans e2).trans e3).trans e4) hp0 fun H5 e5 h5 => ?_
      refine fin _ _ _ e5 h5 ?_ rfl
      show _ = if st = 0 then _ else CX.sw o (st - 1)
      rw [if_neg c]
      unfold CX.sw
      rw [show st - 1 + 1 = st by omega]
  | ring =>
    have hs3 : st < n := hs2
    refine q_no (et_and0 (et_nmM (ev_var rfl hk1))) fun H2 e2 => ?_
    have hk2 := (jK C).mono e2 hk1
    have ho2 := jLI.mono e2 ho1
    by_cases c : st + 1 = n
    · refine s_yes (et_and1 (et_nmR (ev_var rfl hk2)) ((et_eqI (ev_v rfl) (ev_i0 (ev_lenI lenR (ev_var rfl ho2)) ev_c)).eq (decide_eq_true (by omega)))) fun H3 e3 => ?_
      have ho3 := jLI.mono e3 ho2
      refine s_set2I (xs := o) (j1 := 0) (j2 := st) ((e2.trans e3) _ _ hp) (ev_i0 (ev_ixI (j := st) (ev_var rfl ho3) (ev_v rfl) rfl (gI_some (by omega))) (ev_lenI lenR (ev_var rfl ho3))) (ev_i0 (ev_ixI (j := 0) (ev_var rfl ho3) ev_c rfl (gI_some (by omega))) (ev_lenI lenR (ev_var rfl ho3))) (fun _ => ev_v rfl) (fun _ => ev_c) (fun _ => ev_v rfl) (fun _ => ev_v rfl) rfl rfl (by omega) (by omega) H ((e1.trans e2).trans e3) hp0 fun H5 e5 h5 => ?_
      refine fin _ _ _ e5 h5 ?_ rfl
      show _ = if st + 1 = o.length then _ else _
      rw [if_pos (by omega)]
    · refine s_no (et_and1 (et_nmR (ev_var rfl hk2)) ((et_eqI (ev_v rfl) (ev_i0 (ev_lenI lenR (ev_var rfl ho2)) ev_c)).eq (decide_eq_false (by omega)))) fun H3 e3 => ?_
      refine q_set (P := Eqv (.int (st : Int))) ((ev_i0 (ev_v rfl) (ev_intB (fun b H Q q => .inr ⟨b, rfl, q⟩) (ev_nmM (b := false) (ev_var rfl ((jK C).mono e3 hk2))))).eq (congrArg V.int (by show (st : Int) - 0 = _; omega))) fun v4 H4 e4 p4 => ?_
      cases p4
      have ho4 := jLI.mono (e3.trans e4) ho2
      refine s_set2I (xs := o) (j1 := st) (j2 := st + 1) (((e2.trans e3).trans e4) _ _ hp) (ev_ixI (j := st + 1) (ev_var rfl ho4) (ev_i0 (ev_v rfl) ev_c) (by omega) (gI_some (by omega))) (ev_ixI (j := st) (ev_var rfl ho4) (ev_v rfl) rfl (gI_some (by omega))) (fun _ => ev_v rfl) (fun _ => ev_v rfl) (fun _ => ev_v rfl) (fun _ => ev_i0 (ev_v rfl) ev_c) rfl (by omega) (by omega) (by omega) H (((e1.trans e2).trans e3).trans e4) hp0 fun H5 e5 h5 => ?_
      refine fin _ _ _ e5 h5 ?_ rfl
      show _ = if st + 1 = o.length then _ else CX.sw o st
      rw [if_neg (by omega)]
      rfl
  | plain =>
    have hs3 : st < n - 1 := hs2
    refine q_no (et_and0 (et_nmM (ev_var rfl hk1))) fun H2 e2 => ?_
    have hk2 := (jK C).mono e2 hk1
    have ho2 := jLI.mono e2 ho1
    refine s_no (et_and0 (et_nmR (ev_var rfl hk2))) fun H3 e3 => ?_
    refine q_set (P := Eqv (.int (st : Int))) ((ev_i0 (ev_v rfl) (ev_intB (fun b H Q q => .inr ⟨b, rfl, q⟩) (ev_nmM (b := false) (ev_var rfl ((jK C).mono e3 hk2))))).eq (congrArg V.int (by show (st : Int) - 0 = _; omega))) fun v4 H4 e4 p4 => ?_
    cases p4
    have ho4 := jLI.mono (e3.trans e4) ho2
    refine s_set2I (xs := o) (j1 := st) (j2 := st + 1) (((e2.trans e3).trans e4) _ _ hp) (ev_ixI (j := st + 1) (ev_var rfl ho4) (ev_i0 (ev_v rfl) ev_c) (by omega) (gI_some (by omega))) (ev_ixI (j := st) (ev_var rfl ho4) (ev_v rfl) rfl (gI_some (by omega))) (fun _ => ev_v rfl) (fun _ => ev_v rfl) (fun _ => ev_v rfl) (fun _ => ev_i0 (ev_v rfl) ev_c) rfl (by omega) (by omega) (by omega) H (((e1.trans e2).trans e3).trans e4) hp0 fun H5 e5 h5 => ?_
    exact fin _ _ _ e5 h5 rfl rfl
end
end SL
end
section
set_option Elab.async false
set_option linter.all false
set_option maxRecDepth 100000
set_option maxHeartbeats 4000000
set_option autoImplicit false
/-! Slices, loops. -/
namespace SL
open PySem PySem.Spec PyProof.Rows L2
theorem filter_all {α : Type} (xs : List α) : xs.filter (fun _ => true) = xs := List.filter_eq_self.mpr fun _ _ => rfl
theorem cutV_from (xs : List V) (a : Nat) : cutV xs (some (a : Int)) none = xs.drop a := by
  unfold cutV
  rw [HT.sIx_nat, HT.sIx_none]
  by_cases h : a ≤ xs.length
  · rw [show min a xs.length = a by omega]
    exact List.take_of_length_le (by rw [List.length_drop]; exact Nat.le_refl _)
  · rw [show min a xs.length = xs.length by omega, List.drop_length, List.drop_of_length_le (by omega), List.take_nil]
section
variable {K : PySem.W.Frag} {σ : L2.St} {H H' : Hp} {ta tb tc td te tl : TE} {tt tu : TT} {x y z v : V} {P P' P1 P2 P3 : V → Hp → Prop} {D : Ends} {ts tw tz : TS} {i j : Nat} {C : Addr} {k : CX.Kd} {α β : Type} {R : RP α} {S : RP β} {vs : List Nat}
/-- [e for x in xs] -/
theorem ev_lcA {xs : List α} (g : α → β) (h : Ev tl σ H (Is (jL R) xs)) (hz : xs.length ≤ 40000) (hw : ∀ x, wipe ((wipe σ vs).set j (some x)) vs = wipe σ vs)
    (he : ∀ (i : Nat) (x : α) (v : V) (H3 : Hp), Ex H H3 → xs[i]? = some x → R.r H3 v x → Ev te ((wipe σ vs).set j (some v)) H3 (Nu S H3 (g x))) :
    Ev (tLc (iList K tl) (gName j) tYes te vs) σ H (Nu (jL S) H (xs.map g)) := by
  have e := ev_lc (K := K) (S := S) (fun _ => true) g h hz hw (fun _ _ _ _ _ _ _ => et_yes) (fun i x v H3 e h r _ => he i x v H3 e h r)
  rw [filter_all] at e
  exact e
theorem Ev.LI {xs : List Int} (h : Ev te σ H (Nu (jL jI) H xs)) : Ev te σ H (Nu jLI H xs) := h.imp fun v H1 _ p => jL_LI p
theorem Ev.L {xs : List Int} (h : Ev te σ H (Is jLI xs)) : Ev te σ H (Is (jL jI) xs) := h.imp fun v H1 _ p => jLI_L p
/-- xs[a:] -/
theorem ev_from {xs : List α} {a : Nat} {n : Int} (h : Ev te σ H (Is (jL R) xs)) (hi : Ev ta σ H (Eqv (.int n))) (en : n = (a : Int)) : Ev (tSl (rSlL K) te (tPart ta) tNoPart) σ H (fun v H2 => ∃ p vs, v = .ref p ∧ H p = none ∧ H2 p = some (.lst vs) ∧ Paired (R.r H2) vs (xs.drop a)) := fun H1 e1 Q q =>
  h H1 e1 _ fun v H2 e2 ⟨b, ws, ev, hb, hp⟩ => hi H2 (e1.trans e2) _ fun w H3 e3 p => by
    subst ev
    cases p
    subst en
    refine ⟨(a : Int), rfl, b, ws, rfl, .inl (.inl (e3 _ _ hb)), fun l hl => q _ _ ((e2.trans e3).trans (Evl.Ex.new hl)) ⟨l, _, rfl, fresh0 ((e1.trans e2).trans e3) hl, upd_same, ?_⟩⟩
    rw [cutV_from]
    exact paired_drop a (paired_mono (fun _ _ p => R.mono (e3.trans (Evl.Ex.new hl)) p) hp)
theorem ev_fromL {xs : List α} {a : Nat} {n : Int} (h : Ev te σ H (Is (jL R) xs)) (hi : Ev ta σ H (Eqv (.int n))) (en : n = (a : Int)) : Ev (tSl (rSlL K) te (tPart ta) tNoPart) σ H (Is (jL R) (xs.drop a)) :=
  (ev_from h hi en).imp fun v H2 _ ⟨p, vs, e, _, h1, h2⟩ => ⟨p, vs, e, h1, h2⟩
/-! loops -/
/-- for x in xs: what is walked may be new; the word tells of its place a, its items ws, the heap H1 at the start -/
theorem s_forG {xs : List α} (h : Ev tl σ H (Is (jL R) xs)) (Pv : Addr → List V → Hp → Nat → L2.St → Hp → Prop) (h0 : ∀ a ws H1, Ex H H1 → H1 a = some (.lst ws) → Paired (R.r H1) ws xs → Pv a ws H1 0 σ H1)
    (hl : ∀ a ws H1 i σ' H', Ex H H1 → H1 a = some (.lst ws) → Pv a ws H1 i σ' H' → H' a = some (.lst ws))
    (hs : ∀ a ws H1 (i : Nat) (x : α) (v : V), Ex H H1 → H1 a = some (.lst ws) → R.r H1 v x → xs[i]? = some x → ∀ σ' H', Pv a ws H1 i σ' H' → ts { D with nx := Pv a ws H1 (i + 1), ct := Pv a ws H1 (i + 1), bk := D.nx } (σ'.set j (some v)) H')
    (hd : ∀ a ws H1 σ' H', Ex H H1 → Pv a ws H1 xs.length σ' H' → D.nx σ' H') : tFor (iList K tl) (gName j) ts D σ H :=
  h H (Evl.Ex.refl H) _ fun v H1 e ⟨a, ws, ev, ha, hp⟩ => by
    subst ev
    have hlen := paired_len hp
    refine ⟨a, rfl, ⟨ws, .inl (.inl ha)⟩, for_list (Pv a ws H1) (h0 a ws H1 e ha hp) (fun i σ' H' hi p => .inl (.inl (hl a ws H1 i σ' H' e ha p))) (fun i w σ' H' hi p => ?_) (fun σ' H' p => hd a ws H1 σ' H' e (by rw [← hlen]; exact p))⟩
    obtain ⟨x, hx, rx⟩ := paired_get hp hi
    exact hs a ws H1 i x w e ha rx hx σ' H' p
/-- .. where the body lets all stand -/
theorem s_forX {xs : List α} (h : Ev tl σ H (Is (jL R) xs)) (Pv : Nat → L2.St → Hp → Prop) (h0 : ∀ H1, Ex H H1 → Pv 0 σ H1)
    (hs : ∀ (i : Nat) (x : α) (v : V) (σ' : L2.St) (H' : Hp) (N : L2.St → Hp → Prop), Ex H H' → R.r H' v x → xs[i]? = some x → Pv i σ' H' → (∀ σ2 H2, Ex H' H2 → Pv (i + 1) σ2 H2 → N σ2 H2) → ts { D with nx := N, ct := N, bk := D.nx } (σ'.set j (some v)) H')
    (hd : ∀ σ' H', Ex H H' → Pv xs.length σ' H' → D.nx σ' H') : tFor (iList K tl) (gName j) ts D σ H :=
  s_forG h (fun _ _ H1 i σ' H' => Ex H1 H' ∧ Pv i σ' H') (fun a ws H1 e _ _ => ⟨Evl.Ex.refl H1, h0 H1 e⟩) (fun a ws H1 i σ' H' _ h1 p => p.1 _ _ h1)
    (fun a ws H1 i x v e h1 r hx σ' H' p => hs i x v σ' H' _ (e.trans p.1) (R.mono p.1 r) hx p.2 fun σ2 H2 e2 p2 => ⟨p.1.trans e2, p2⟩) (fun a ws H1 σ' H' e p => hd σ' H' (e.trans p.1) p.2)
theorem q_forX {xs : List α} (h : Ev tl σ H (Is (jL R) xs)) (Pv : Nat → L2.St → Hp → Prop) (h0 : ∀ H1, Ex H H1 → Pv 0 σ H1)
    (hs : ∀ (i : Nat) (x : α) (v : V) (σ' : L2.St) (H' : Hp) (N : L2.St → Hp → Prop), Ex H H' → R.r H' v x → xs[i]? = some x → Pv i σ' H' → (∀ σ2 H2, Ex H' H2 → Pv (i + 1) σ2 H2 → N σ2 H2) → ts { D with nx := N, ct := N, bk := tz D } (σ'.set j (some v)) H')
    (hd : ∀ σ' H', Ex H H' → Pv xs.length σ' H' → tz D σ' H') : tSeq (tFor (iList K tl) (gName j) ts) tz D σ H := s_forX (D := { D with nx := tz D }) h Pv h0 hs hd
/-- for i, x in enumerate(xs), ints that stand since H0 -/
theorem s_enum {xs : List Int} {j1 j2 : Nat} {H0 : Hp} {a : Addr} (h : Ev tl σ H (Eqv (.ref a))) (ha : H0 a = some (.lst (xs.map V.int))) (e0 : Ex H0 H) (Pv : Nat → L2.St → Hp → Prop) (h0 : ∀ H1, Ex H H1 → Pv 0 σ H1) (he : ∀ i σ' H', Pv i σ' H' → Ex H0 H')
    (hs : ∀ (i : Nat) (x : Int) (σ' : L2.St) (H' H2 : Hp), xs[i]? = some x → Pv i σ' H' → Ex H' H2 → (∀ b, H2 b ≠ H' b → H' b = none) → ts { D with nx := Pv (i + 1), ct := Pv (i + 1), bk := D.nx } ((σ'.set j1 (some (.int (i : Int)))).set j2 (some (.int x))) H2)
    (hd : ∀ σ' H', Pv xs.length σ' H' → D.nx σ' H') : tFor (iEnum K (tCons tl tNil)) (gTup K 2 (gCons (gName j1) (gCons (gName j2) gNil))) ts D σ H :=
  h H (Evl.Ex.refl H) _ fun v H1 e1 ev => by
    cases ev
    have hq : ∀ i σ' H', Pv i σ' H' → SqL K H' a (xs.map V.int) := fun i σ' H' p => .inl (.inl (he i σ' H' p _ _ ha))
    refine ⟨a, _, rfl, .inl (.inl ((e0.trans e1) _ _ ha)), fun i m σ' H' => m + i = xs.length ∧ Pv i σ' H', ⟨xs.length, rfl, h0 H1 e1⟩, fun i m σ' H' ⟨em, p⟩ => ?_⟩
    by_cases hi : i < xs.length
    · refine .inr ⟨⟨_, .int xs[i], hq i σ' H' p, get_map (List.getElem?_eq_getElem hi)⟩, Pv (i + 1), fun σ2 H2 p2 => ⟨m - 1, by omega, by omega, p2⟩, fun x H2 ⟨T, u, ex, hT, eH, hu⟩ => ?_⟩
      subst ex eH
      have e5 := Option.some.inj ((hu _ (hq i σ' H' p)).symm.trans (get_map (List.getElem?_eq_getElem hi)))
      subst e5
      refine ⟨T, _, rfl, .inl (.inl upd_same), rfl, _, _, rfl, _, _, rfl, rfl, ?_⟩
      refine hs i xs[i] σ' H' _ (List.getElem?_eq_getElem hi) p (Evl.Ex.new hT) fun b hb => ?_
      by_cases c : b = T
      · rw [c]; exact hT
      · exact absurd (upd_ne c) hb
    · refine .inl ⟨⟨_, hq i σ' H' p, by rw [List.length_map]; omega⟩, ?_⟩
      have e : i = xs.length := by omega
      subst e
      exact hd σ' H' p
theorem q_enum {xs : List Int} {j1 j2 : Nat} {H0 : Hp} {a : Addr} (h : Ev tl σ H (Eqv (.ref a))) (ha : H0 a = some (.lst (xs.map V.int))) (e0 : Ex H0 H) (Pv : Nat → L2.St → Hp → Prop) (h0 : ∀ H1, Ex H H1 → Pv 0 σ H1) (he : ∀ i σ' H', Pv i σ' H' → Ex H0 H')
    (hs : ∀ (i : Nat) (x : Int) (σ' : L2.St) (H' H2 : Hp), xs[i]? = some x → Pv i σ' H' → Ex H' H2 → (∀ b, H2 b ≠ H' b → H' b = none) → ts { D with nx := Pv (i + 1), ct := Pv (i + 1), bk := tz D } ((σ'.set j1 (some (.int (i : Int)))).set j2 (some (.int x))) H2)
    (hd : ∀ σ' H', Pv xs.length σ' H' → tz D σ' H') : tSeq (tFor (iEnum K (tCons tl tNil)) (gTup K 2 (gCons (gName j1) (gCons (gName j2) gNil))) ts) tz D σ H := s_enum (D := { D with nx := tz D }) h ha e0 Pv h0 he hs hd
/-- [0] * n -/
theorem ev_rep0 {n : Nat} (h : Ev ta σ H (Eqv (.int n))) (hz : n ≤ 1000) : Ev (tOp rRep (tLst (tCons (tC (.int 0)) tNil)) ta) σ H (Nu jLI H (List.replicate n 0)) := fun H1 e1 Q q => by
  refine ⟨Evl.sz_of (show 1 ≤ 100000 by decide), fun l hl => ?_⟩
  refine h _ (e1.trans (Evl.Ex.new hl)) _ fun v H2 e2 p => ?_
  cases p
  refine ⟨l, (n : Int), [.int 0], rfl, rfl, e2 _ _ upd_same, by omega, by omega, Evl.sz_of (by show 1 * (n : Int).toNat ≤ 100000; omega), fun p hp => ?_⟩
  refine q _ _ (((Evl.Ex.new hl).trans e2).trans (Evl.Ex.new hp)) ⟨p, rfl, ?_⟩
  rw [newOf_new ((e1.trans (Evl.Ex.new hl)).trans e2) hp]
  have e : (List.replicate ((n : Int).toNat) [V.int 0]).flatten = (List.replicate n (0 : Int)).map V.int := by
    rw [show (n : Int).toNat = n by omega]
    have hh : ∀ m : Nat, (List.replicate m [V.int 0]).flatten = (List.replicate m (0 : Int)).map V.int := fun m => by
      induction m with
      | zero => rfl
      | succ m ih => rw [List.replicate_succ, List.replicate_succ, List.flatten_cons, ih]; rfl
    exact hh n
  rw [e]
/-- abs -/
theorem ev_abs {n : Int} {r : List V → Hp → VK → Prop} (hr : ∀ (n : Int) (H : Hp) (Q : VK), Q (.int (if n < 0 then -n else n)) H → r [.int n] H Q) (h : Ev ta σ H (Eqv (.int n))) : Ev (tCB r (tCons ta tNil)) σ H (Eqv (.int (n.natAbs : Int))) :=
  (ev_b1 (hr n) h).eq (congrArg V.int (by split <;> omega))
end
end SL
end
section
set_option Elab.async false
set_option linter.all false
set_option maxRecDepth 100000
set_option maxHeartbeats 4000000
set_option autoImplicit false
namespace SL
open PySem PySem.Spec PyProof.Rows L2
section
variable {P : Program} {w : World} {K : PySem.W.Frag} {mg : Str → Option Value} {base : Heap} {C : Addr}

/-! ### item_at, product_of, ahead_of -/
abbrev spItem (C : Addr) : Sp := sp3 (jK C) jLI jI jI (fun k o p => k.good ∧ o.length = k.n ∧ CX.Val k p) (fun k o p r => r = CX.itK k o p)
theorem c_item_at (T : Tp K mg C) (D : Dfn K mg "item_at" s_item_at) (m_name : Mt P w K mg base C 1 "name" (spName C)) : Cal P w K mg base 2 "item_at" p_item_at (spItem C) := by
  refine cal_mk D sc_item_at (fun _ _ _ _ h => len3 h) (fun _ _ _ _ _ _ us hl => match us, hl with | [_, _, _], _ => rfl) (fun f cdv A outer s H vs Q E hr h => ?_)
  obtain ⟨v1, v2, v3, k, o, pl, rfl, hk, ho, hs, ⟨hg, hl, hv⟩, q⟩ := h
  have hr' := hr.mono (j := 1) (by decide)
  refine ⟨_, (pss_cons (ps_if (pt_cmpR op_eq (pe_mt m_name T.cl hr' (pv 0)) pe_str (nomark _)) (pss_one (ps_ret (pe_op op_mul (pe_ix ix_list (pv 1) (pe_op op_sub (pe_callB call_abs (by rfl) T.abs (by decide +kernel) (pa_cons (pv 2) pa_nil)) pe_int) (fun _ _ => rfl)) (pe_ifExp (pt_cmpR op_gt (pv 2) pe_int (nomark _)) pe_int (pe_un un_neg pe_int))))) pss_nil)
      (pss_one (ps_ret (pe_op op_sub (pe_op op_add (pe_ix ix_list (pv 1) (pe_op op_mod (pv 2) (pe_callB call_len_seq (by rfl) T.len (by decide +kernel) (pa_cons (pv 1) pa_nil))) (fun _ _ => rfl)) (pv 2)) (pe_op op_mod (pv 2) (pe_callB call_len_seq (by rfl) T.len (by decide +kernel) (pa_cons (pv 1) pa_nil))))))), ?_⟩
  cases hs
  have hn := n_le hg
  rcases CX.mir_or k with hm | hm
  · have hv2 : pl ≠ 0 ∧ pl.natAbs ≤ k.n := by
      obtain ⟨nm, n⟩ := k
      cases hm
      exact hv
    refine q_yes (et_nmM (ev_var rfl hk) (decide_eq_true hm)) fun H1 e1 => ?_
    have ho1 := jLI.mono e1 ho
    refine s_ret (P := Eqv (.int (CX.itK k o pl))) ?_ fun v H2 e2 p => q v H2 _ (e1.trans e2) rfl p
    rw [CX.it_mirror hm]
    refine ev_i (ev_ixI (j := pl.natAbs - 1) (ev_var rfl ho1) (ev_i0 (ev_abs (fun n H Q q => ⟨n, rfl, q⟩) (ev_v rfl)) ev_c) (by omega) (gI_some (by omega))) (j := if pl > 0 then 1 else -1) ?_ (.inr (by split <;> exact ⟨by decide, by decide⟩))
    by_cases c : pl > 0
    · rw [if_pos c]
      exact ev_yes ((et_i (p := fun i j => decide (j < i)) (ev_v rfl) ev_c).eq (decide_eq_true c)) ev_c
    · rw [if_neg c]
      exact ev_no ((et_i (p := fun i j => decide (j < i)) (ev_v rfl) ev_c).eq (decide_eq_false c)) (ev_u ev_c)
  · refine q_skip (et_nmM (ev_var rfl hk) (decide_eq_false hm)) fun H1 e1 => ?_
    have ho1 := jLI.mono e1 ho
    refine s_ret (P := Eqv (.int (CX.itK k o pl))) ?_ fun v H2 e2 p => q v H2 _ (e1.trans e2) rfl p
    rw [CX.it_flat hm]
    have h0 := Int.emod_nonneg pl (show (o.length : Int) ≠ 0 by omega)
    have h1 := Int.emod_lt_of_pos pl (show (0 : Int) < (o.length : Int) by omega)
    have md : Ev (tOp (rI (fun _ j => 0 < j) fun i j => .int (i % j)) (tVar 2) (tCB (fun (xs : List V) (H : Hp) (Q : VK) => ∃ p ys, xs = [.ref p] ∧ (SqL K H p ys ∨ SqT K H p ys) ∧ Q (.int ys.length) H) (tCons (tVar 1) tNil))) (L2.start N_item_at [v1, v2, .int pl]) H1 (Eqv (.int (pl % (o.length : Int)))) := ev_i (ev_v rfl) (ev_lenI lenR (ev_var rfl ho1)) (by omega)
    exact ev_i0 (ev_i0 (ev_ixI (j := (pl % (o.length : Int)).toNat) (ev_var rfl ho1) md (by omega) (gI_some (by omega))) (ev_v rfl)) md
abbrev spProd (C : Addr) : Sp := sp3 (jK C) jLI jLI jLI (fun k o q => k.good ∧ o.length = k.n ∧ q.length ≤ 7 ∧ ∀ v, v ∈ q → CX.Val k v) (fun k o q r => r = CX.prodK k o q)
theorem c_product_of (T : Tp K mg C) (D : Dfn K mg "product_of" s_product_of) (c_item_at : Cal P w K mg base 2 "item_at" p_item_at (spItem C)) : Cal P w K mg base 3 "product_of" p_product_of (spProd C) := by
  refine cal_mk D sc_product_of (fun _ _ _ _ h => len3 h) (fun _ _ _ _ _ _ us hl => match us, hl with | [_, _, _], _ => rfl) (fun f cdv A outer s H vs Q E hr h => ?_)
  obtain ⟨v1, v2, v3, k, o, qq, rfl, hk, ho, hs, ⟨hg, hl, hz, hv⟩, q⟩ := h
  have hr' := hr.mono (j := 2) (by decide)
  refine ⟨_, (pss_one (ps_ret (pe_lc (own := [("place", 3)]) (by rfl) sc_product_of.nd (pi_list (pv 2)) (blkOk_by (own := [("place", 3)]) (N := N_product_of) (sc := defScope s_product_of) (by decide +kernel)) (fun _ _ _ _ _ => (pg_name (i := 3) sc_product_of.nd rfl (.inl rfl))) (fun _ _ _ _ _ => pts_nil) (fun _ _ _ _ _ => (pe_cal c_item_at hr' (by rfl) (pa_cons (pv 0) (pa_cons (pv 1) (pa_cons (pv 3) pa_nil)))))))), ?_⟩
  refine s_ret (Ev.LI (ev_lcA (xs := qq) (S := jI) (CX.itK k o) (ev_var rfl hs).L (by omega) (fun _ => rfl) fun i x v H3 e3 hx rx => ?_)) fun v H2 e2 p => q v H2 _ e2 rfl p
  exact nu1 (ev_c3 (ev_var rfl ((jK C).mono e3 hk)) (ev_var rfl (jLI.mono e3 ho)) (ev_var rfl rx) ⟨hg, hl, hv x (List.mem_of_getElem? hx)⟩)
abbrev preV (k : CX.Kd) (o : List Int) (s : Nat) : Prop := k.good ∧ CX.Sh k o ∧ s < k.steps
abbrev spAhead (C : Addr) : Sp := sp3 (jK C) jLI jN jLI preV (fun k o s r => r = CX.aheadK k o s)
theorem c_ahead_of (T : Tp K mg C) (D : Dfn K mg "ahead_of" s_ahead_of) (m_start : Mt P w K mg base C 1 "start" (spStart C)) (c_by_step : Cal P w K mg base 2 "by_step" p_by_step (spBy C)) (c_product_of : Cal P w K mg base 3 "product_of" p_product_of (spProd C)) : Cal P w K mg base 4 "ahead_of" p_ahead_of (spAhead C) := by
  refine cal_mk D sc_ahead_of (fun _ _ _ _ h => len3 h) (fun _ _ _ _ _ _ us hl => match us, hl with | [_, _, _], _ => rfl) (fun f cdv A outer s H vs Q E hr h => ?_)
  obtain ⟨v1, v2, v3, k, o, st, rfl, hk, ho, hs, ⟨hg, hsh, hst⟩, q⟩ := h
  have hr' := hr
  have hn := n_le hg
  refine ⟨_, (pss_one (ps_ret (pe_cal c_product_of hr (by rfl) (pa_cons (pv 0) (pa_cons (pe_cal c_by_step (hr.mono (by decide)) (by rfl) (pa_cons (pv 0) (pa_cons (pe_mt m_start T.cl (hr.mono (by decide)) (pv 0)) (pa_cons (pv 2) pa_nil)))) (pa_cons (pv 1) pa_nil)))))), ?_⟩
  refine s_ret (nu1 (ev_c3 (x := k) (y := CX.byK k k.start st) (z := o) (ev_var rfl hk) (isN (ev_c3 (ev_var rfl hk) (ev_start (ev_var rfl hk) hg).is (ev_var rfl hs) ⟨hg, CX.start_len, hst⟩)) (ev_var rfl ho) ⟨hg, CX.by_len hg hst CX.start_len, by rw [hsh.len]; omega, fun v hv => hsh.val hv⟩)) fun v H2 e2 p => q v H2 _ e2 rfl p
/-! ### opposite_of, falls_of, heads_of -/
abbrev spOpp (C : Addr) : Sp := sp2 (jK C) jLI jLI (fun k o => k.good ∧ CX.Sh k o) (fun k o r => r = CX.oppK k o)
theorem c_opposite_of (T : Tp K mg C) (D : Dfn K mg "opposite_of" s_opposite_of) (m_name : Mt P w K mg base C 1 "name" (spName C)) : Cal P w K mg base 2 "opposite_of" p_opposite_of (spOpp C) := by
  refine cal_mk D sc_opposite_of (fun _ _ _ _ h => len2 h) (fun _ _ _ _ _ _ us hl => match us, hl with | [_, _], _ => rfl) (fun f cdv A outer s H vs Q E hr h => ?_)
  obtain ⟨v1, v2, k, o, rfl, hk, ho, ⟨hg, hsh⟩, q⟩ := h
  have hr' := hr.mono (j := 1) (by decide)
  have hn := n_le hg
  have hl := hsh.len
  refine ⟨_, (pss_cons (ps_set (i := 2) sc_opposite_of.nd rfl (.inl rfl) (pe_op op_rep (pe_lst (pa_cons pe_int pa_nil)) (pe_callB call_len_seq (by rfl) T.len (by decide +kernel) (pa_cons (pv 1) pa_nil))))
      (pss_cons (ps_for PassesOwn.never rfl (pi_enum (by rfl) T.enumerate (pa_cons (pv 1) pa_nil)) (pg_tup rfl (pgs_cons (pg_name (i := 3) sc_opposite_of.nd rfl (.inl rfl)) (pgs_cons (pg_name (i := 4) sc_opposite_of.nd rfl (.inl rfl)) pgs_nil))) (pss_one (ps_if (pt_cmpR op_eq (pe_mt m_name T.cl hr' (pv 0)) pe_str (nomark _)) (pss_one (ps_asg (pe_op op_mul (pe_op op_add (pv 3) pe_int) (pe_ifExp (pt_cmpR op_gt (pv 4) pe_int (nomark _)) pe_int (pe_un un_neg pe_int))) (pg_sub (pv 2) (pe_op op_sub (pe_callB call_abs (by rfl) T.abs (by decide +kernel) (pa_cons (pv 4) pa_nil)) pe_int) set_list))) (pss_one (ps_asg (pe_op op_sub (pv 3) (pe_op op_sub (pv 4) (pe_op op_mod (pv 4) (pe_callB call_len_seq (by rfl) T.len (by decide +kernel) (pa_cons (pv 1) pa_nil))))) (pg_sub (pv 2) (pe_op op_mod (pv 4) (pe_callB call_len_seq (by rfl) T.len (by decide +kernel) (pa_cons (pv 1) pa_nil))) set_list))))))
      (pss_one (ps_ret (pv 2))))), ?_⟩
  obtain ⟨a, rfl, ha⟩ := ho
  refine q_set (ev_rep0 (n := o.length) (ev_lenI lenR (ev_var rfl (mapLI ha))) (by omega)) fun v H1 e1 p1 => ?_
  obtain ⟨p, rfl, hp0, hp⟩ := nuLI p1
  refine q_enum (xs := o) (H0 := H) (ev_v rfl) ha e1 (fun i σ' H' => Ex H H' ∧ ∃ (f : List Int) (y3 y4 : Option V), σ' = [some v1, some (.ref a), some (.ref p), y3, y4] ∧ f.length = o.length ∧ CX.oppF k (o.drop i) i f = CX.oppK k o ∧ H' p = some (.lst (f.map V.int)))
    (fun H2 e2 => ⟨e1.trans e2, _, none, none, rfl, List.length_replicate, rfl, e2 _ _ hp⟩) (fun i σ' H' p => p.1) (fun i x σ' H' H2 hx pv e2 hne => ?_) (fun σ' H' pv => ?_)
  · obtain ⟨ee, f, y3, y4, rfl, fl, fo, fp⟩ := pv
    have hi : i < o.length := (List.getElem?_eq_some_iff.mp hx).1
    have hxo : x ∈ o := List.mem_of_getElem? hx
    have ee2 := ee.trans e2
    have hk2 := (jK C).mono ee2 hk
    have ho2 := jLI.mono ee2 (mapLI ha)
    have fp2 := e2 _ _ fp
    have ixl := hsh.ix_lt hg hxo
    have fin : ∀ (H3 : Hp), Ex H2 H3 → (Ex H (upd H3 p (.lst ((f.set (CX.ixK k x) (CX.vaK k x i)).map V.int))) ∧ ∃ (f' : List Int) (y3 y4 : Option V), (([some v1, some (V.ref a), some (V.ref p), some (.int (i : Int)), some (.int x)] : L2.St) = [some v1, some (.ref a), some (.ref p), y3, y4]) ∧ f'.length = o.length ∧ CX.oppF k (o.drop (i + 1)) (i + 1) f' = CX.oppK k o ∧ upd H3 p (.lst ((f.set (CX.ixK k x) (CX.vaK k x i)).map V.int)) p = some (.lst (f'.map V.int))) := fun H3 e3 => by
      refine ⟨ex_upd (ee2.trans e3) hp0, _, _, _, rfl, by rw [List.length_set, fl], ?_, upd_same⟩
      rw [← fo]
      rw [List.drop_eq_getElem_cons hi]
      rw [(List.getElem?_eq_some_iff.mp hx).2]
      rfl
    rcases CX.mir_or k with hm | hm
    · refine s_yes (et_nmM (ev_var rfl hk2) (decide_eq_true hm)) fun H3 e3 => ?_
      have nz := hsh.nz hm hxo
      rw [CX.ix_mirror hm] at ixl
      refine s_setI (xs := f) (j := x.natAbs - 1) (z := CX.vaK k x i) (e3 _ _ fp2) ?_ (ev_v rfl) (ev_i0 (ev_abs (fun n H Q q => ⟨n, rfl, q⟩) (ev_v rfl)) ev_c) (by omega) (by rw [fl, hl]; exact ixl) fun H4 e4 => ?_
      · rw [CX.va_mirror hm]
        refine ev_i (ev_i0 (ev_v rfl) ev_c) (j := if x > 0 then 1 else -1) ?_ (.inr (by split <;> exact ⟨by decide, by decide⟩))
        by_cases c : x > 0
        · rw [if_pos c]
          exact ev_yes ((et_i (p := fun i j => decide (j < i)) (ev_v rfl) ev_c).eq (decide_eq_true c)) ev_c
        · rw [if_neg c]
          exact ev_no ((et_i (p := fun i j => decide (j < i)) (ev_v rfl) ev_c).eq (decide_eq_false c)) (ev_u ev_c)
      · rw [← CX.ix_mirror hm]
        exact fin H4 (e3.trans e4)
    · refine s_no (et_nmM (ev_var rfl hk2) (decide_eq_false hm)) fun H3 e3 => ?_
      have ho3 := jLI.mono e3 ho2
      have h0 := Int.emod_nonneg x (show (k.n : Int) ≠ 0 by omega)
      rw [CX.ix_flat hm] at ixl
      have md : Ev (tOp (rI (fun _ j => 0 < j) fun i j => .int (i % j)) (tVar 4) (tCB (fun (xs : List V) (H : Hp) (Q : VK) => ∃ p ys, xs = [.ref p] ∧ (SqL K H p ys ∨ SqT K H p ys) ∧ Q (.int ys.length) H) (tCons (tVar 1) tNil))) [some v1, some (V.ref a), some (V.ref p), some (.int (i : Int)), some (.int x)] H3 (Eqv (.int (x % (k.n : Int)))) := by
        rw [← hl]
        exact ev_i (ev_v rfl) (ev_lenI lenR (ev_var rfl ho3)) (by omega)
      refine s_setI (xs := f) (j := (x % (k.n : Int)).toNat) (z := CX.vaK k x i) (e3 _ _ fp2) ?_ (ev_v rfl) md (by omega) (by rw [fl, hl]; exact ixl) fun H4 e4 => ?_
      · rw [CX.va_flat hm]
        exact ev_i0 (ev_v rfl) (ev_i0 (ev_v rfl) md)
      · rw [← CX.ix_flat hm]
        exact fin H4 (e3.trans e4)
  · obtain ⟨ee, f, y3, y4, rfl, fl, fo, fp⟩ := pv
    rw [List.drop_length] at fo
    have fo2 : f = CX.oppK k o := fo
    refine s_ret (ev_v rfl) fun v H3 e3 pv => ?_
    cases pv
    rw [fo2] at fp
    exact q _ H3 _ (ee.trans e3) rfl (jLI_new hp0 (e3 _ _ fp))
abbrev spFalls (C : Addr) : Sp := sp2 (jK C) jLI (jL jN) (fun k o => k.good ∧ o.length = k.n) (fun k o r => r = (List.range k.steps).filter (CX.fallK k o))
theorem c_falls_of (T : Tp K mg C) (D : Dfn K mg "falls_of" s_falls_of) (m_steps : Mt P w K mg base C 1 "steps" (spSteps C)) (c_is_crossed : Cal P w K mg base 2 "is_crossed" p_is_crossed (spCrossed C)) : Cal P w K mg base 3 "falls_of" p_falls_of (spFalls C) := by
  refine cal_mk D sc_falls_of (fun _ _ _ _ h => len2 h) (fun _ _ _ _ _ _ us hl => match us, hl with | [_, _], _ => rfl) (fun f cdv A outer s H vs Q E hr h => ?_)
  obtain ⟨v1, v2, k, o, rfl, hk, ho, ⟨hg, hl⟩, q⟩ := h
  have hn := n_le hg
  have hle := steps_le k
  refine ⟨_, (pss_one (ps_ret (pe_lc (own := [("step", 2)]) (by rfl) sc_falls_of.nd (pi_range1 rfl T.range (pa_cons (pe_mt m_steps T.cl (hr.mono (by decide)) (pv 0)) pa_nil)) (blkOk_by (own := [("step", 2)]) (N := N_falls_of) (sc := defScope s_falls_of) (by decide +kernel)) (fun _ _ _ _ _ => (pg_name (i := 2) sc_falls_of.nd rfl (.inl rfl))) (fun _ _ _ _ _ => pts_one (pt_val (pe_cal c_is_crossed hr (by rfl) (pa_cons (pv 0) (pa_cons (pv 1) (pa_cons (pv 2) pa_nil)))))) (fun _ _ _ _ _ => (pv 2))))), ?_⟩
  refine s_ret (ev_lcR (S := jN) (CX.fallK k o) id (ev_steps (ev_var rfl hk) hg) (by omega) (fun _ => rfl) (fun i H3 e3 hi => ?_) (fun i H3 e3 hi hf => ?_)) fun v H2 e2 p => q v H2 _ e2 rfl (by rw [List.map_id] at p; exact p)
  · exact et_B (nuB (ev_c3 (ev_var rfl ((jK C).mono e3 hk)) (ev_var rfl (jLI.mono e3 ho)) (ev_var (P := Is jN i) rfl rfl) ⟨hg, hl, hi⟩))
  · exact ev_v rfl
abbrev spHeads (C : Addr) : Sp := sp2 (jK C) jLI (jL jN) (fun k o => k.good ∧ CX.Sh k o) (fun k o r => r = (List.range k.steps).filter (CX.fallK k (CX.oppK k o)))
theorem c_heads_of (T : Tp K mg C) (D : Dfn K mg "heads_of" s_heads_of) (c_opposite_of : Cal P w K mg base 2 "opposite_of" p_opposite_of (spOpp C)) (c_falls_of : Cal P w K mg base 3 "falls_of" p_falls_of (spFalls C)) : Cal P w K mg base 4 "heads_of" p_heads_of (spHeads C) := by
  refine cal_mk D sc_heads_of (fun _ _ _ _ h => len2 h) (fun _ _ _ _ _ _ us hl => match us, hl with | [_, _], _ => rfl) (fun f cdv A outer s H vs Q E hr h => ?_)
  obtain ⟨v1, v2, k, o, rfl, hk, ho, ⟨hg, hsh⟩, q⟩ := h
  refine ⟨_, (pss_one (ps_ret (pe_cal c_falls_of hr (by rfl) (pa_cons (pv 0) (pa_cons (pe_cal c_opposite_of (hr.mono (by decide)) (by rfl) (pa_cons (pv 0) (pa_cons (pv 1) pa_nil))) pa_nil))))), ?_⟩
  exact s_ret (nu1 (ev_c2 (y := CX.oppK k o) (ev_var rfl hk) (isN (ev_c2 (ev_var rfl hk) (ev_var rfl ho) ⟨hg, hsh⟩)) ⟨hg, by rw [CX.opp_len, hsh.len]⟩)) fun v H2 e2 p => q v H2 _ e2 rfl p
end
end SL
end
section
set_option Elab.async false
set_option linter.all false
set_option maxRecDepth 100000
set_option maxHeartbeats 4000000
set_option autoImplicit false
/-! Equality of data, isinstance, sorted, sum. -/
namespace SL
open PySem PySem.Spec PyProof.Rows L2
/-- a datum as the library's own, whose equality is ours -/
structure Enc {α : Type} (R : RP α) where
  enc : α → PyData
  d : Nat
  dp : ∀ {K : PySem.W.Frag} {H : Hp} {v : V} {x : α}, R.r H v x → Dp K H v (enc x)
  lay : ∀ x, (enc x).canLay0 = true
  dep : ∀ x, (enc x).depth ≤ d
  eq : ∀ x y, PyData.eqv (enc x) (enc y) = true ↔ x = y
theorem Enc.dec {α : Type} [DecidableEq α] {R : RP α} (E : Enc R) (x y : α) : PyData.eqv (E.enc x) (E.enc y) = decide (x = y) := by
  by_cases h : x = y
  · rw [decide_eq_true h]; exact (E.eq x y).mpr h
  · rw [decide_eq_false h]
    cases e : PyData.eqv (E.enc x) (E.enc y) with
    | false => rfl
    | true => exact absurd ((E.eq x y).mp e) h
theorem Enc.shaped {α : Type} {R : RP α} (E : Enc R) (h : E.d ≤ 64) (x : α) : SeqAt.shaped (E.enc x) = true := by
  unfold SeqAt.shaped
  rw [E.lay x, Bool.true_and]
  exact decide_eq_true (Nat.le_trans (E.dep x) h)
def encI : Enc jI where
  enc := .int
  d := 0
  dp := fun {K H v x} h => by
    cases h
    exact .int x
  lay := fun _ => by simp only [PyData.canLay0]
  dep := fun _ => by simp only [PyData.depth]; exact Nat.le_refl 0
  eq := fun x y => by simp only [PyData.eqv]; exact beq_iff_eq
theorem dpAll {α : Type} {R : RP α} (E : Enc R) {K : PySem.W.Frag} {H : Hp} : ∀ {vs : List V} {xs : List α}, Paired (R.r H) vs xs → DpAll K H vs (xs.map E.enc)
  | _, _, .nil => .nil
  | _, _, .cons r t => .cons (E.dp r) (dpAll E t)
theorem layAll {α : Type} {R : RP α} (E : Enc R) : ∀ xs : List α, PyData.canLayAll0 (xs.map E.enc) = true
  | [] => by simp only [List.map_nil, PyData.canLayAll0]
  | x :: xs => by rw [List.map_cons, PyData.canLayAll0, E.lay x, layAll E xs]; rfl
theorem depAll {α : Type} {R : RP α} (E : Enc R) : ∀ xs : List α, PyData.depthAll (xs.map E.enc) ≤ E.d
  | [] => by simp only [List.map_nil, PyData.depthAll]; exact Nat.zero_le _
  | x :: xs => by
    rw [List.map_cons, PyData.depthAll]
    exact Nat.max_le.mpr ⟨E.dep x, depAll E xs⟩
theorem eqAll {α : Type} {R : RP α} (E : Enc R) : ∀ xs ys : List α, PyData.eqvAll (xs.map E.enc) (ys.map E.enc) = true ↔ xs = ys
  | [], [] => by simp only [List.map_nil, PyData.eqvAll]
  | [], y :: ys => by
    rw [List.map_nil, List.map_cons, PyData.eqvAll]
    exact Iff.intro (fun h => (nomatch h)) (fun h => (nomatch h))
  | x :: xs, [] => by
    rw [List.map_nil, List.map_cons, PyData.eqvAll]
    exact Iff.intro (fun h => (nomatch h)) (fun h => (nomatch h))
  | x :: xs, y :: ys => by
    rw [List.map_cons, List.map_cons, PyData.eqvAll, Bool.and_eq_true_iff, E.eq, eqAll E]
    exact ⟨fun ⟨a, b⟩ => by rw [a, b], fun h => by cases h; exact ⟨rfl, rfl⟩⟩
def encL {α : Type} {R : RP α} (E : Enc R) : Enc (jL R) where
  enc := fun xs => .list (xs.map E.enc)
  d := E.d + 1
  dp := fun {K H v x} h => by
    obtain ⟨a, vs, rfl, h2, h3⟩ := h
    exact .lst (.inl (.inl h2)) (dpAll E h3)
  lay := fun xs => by rw [PyData.canLay0]; exact layAll E xs
  dep := fun xs => by rw [PyData.depth]; exact Nat.succ_le_succ (depAll E xs)
  eq := fun x y => by rw [PyData.eqv]; exact eqAll E x y
def encLI : Enc jLI where
  enc := fun xs => .list (xs.map .int)
  d := 1
  dp := fun h => (encL encI).dp (jLI_L h)
  lay := (encL encI).lay
  dep := (encL encI).dep
  eq := (encL encI).eq
section
variable {K : PySem.W.Frag} {σ : L2.St} {H H' : Hp} {ta tb tc td te tl : TE} {tt tu : TT} {x y z v : V} {P P' P1 P2 P3 : V → Hp → Prop} {D : Ends} {ts tw tz : TS} {i j : Nat} {C : Addr} {k : CX.Kd} {α β : Type} {R : RP α} {S : RP β} {vs : List Nat}
theorem ev_eqD [DecidableEq α] (E : Enc R) {x y : α} (h1 : Ev ta σ H (Is R x)) (h2 : Ev tb σ H (Is R y)) (hd : E.d ≤ 64 := by decide) : Ev (tOp (rEqD K) ta tb) σ H (Eqv (.bl (decide (x = y)))) :=
  ev_opG h1 h2 fun u w H1 _ p1 p2 Q q => ⟨E.enc x, E.enc y, E.dp p1, E.dp p2, E.shaped hd x, E.shaped hd y, by rw [E.dec]; exact q _ H1 (Evl.Ex.refl _) rfl⟩
theorem ev_neD [DecidableEq α] (E : Enc R) {x y : α} (h1 : Ev ta σ H (Is R x)) (h2 : Ev tb σ H (Is R y)) (hd : E.d ≤ 64 := by decide) : Ev (tOp (rNeD K) ta tb) σ H (Eqv (.bl (!decide (x = y)))) :=
  ev_opG h1 h2 fun u w H1 _ p1 p2 Q q => ⟨E.enc x, E.enc y, E.dp p1, E.dp p2, E.shaped hd x, E.shaped hd y, by rw [E.dec]; exact q _ H1 (Evl.Ex.refl _) rfl⟩
/-- xs != [] -/
theorem et_neN (E : Enc R) {xs : List α} (h1 : Ev ta σ H (Is (jL R) xs)) (hd : E.d ≤ 63 := by decide) : EvT (tTest (tOp (rNeD K) ta (tLst tNil))) σ H (!xs.isEmpty) := by
  refine et_test (ev_opG h1 (ev_nil (R := R)) fun u w H1 _ p1 p2 Q q => ⟨(encL E).enc xs, (encL E).enc [], (encL E).dp p1, (encL E).dp p2.is, (encL E).shaped (Nat.succ_le_succ hd) xs, (encL E).shaped (Nat.succ_le_succ hd) [], ?_⟩)
  have e : PyData.eqv ((encL E).enc xs) ((encL E).enc []) = xs.isEmpty := by
    cases xs with
    | nil => exact ((encL E).eq [] []).mpr rfl
    | cons a r =>
      show _ = false
      cases e : PyData.eqv ((encL E).enc (a :: r)) ((encL E).enc []) with
      | false => rfl
      | true => exact nomatch ((encL E).eq _ _).mp e
  rw [e]
  exact q _ H1 (Evl.Ex.refl _) rfl
theorem et_eqN (E : Enc R) {xs : List α} (h1 : Ev ta σ H (Is (jL R) xs)) (hd : E.d ≤ 63 := by decide) : EvT (tTest (tOp (rEqD K) ta (tLst tNil))) σ H xs.isEmpty := by
  refine et_test (ev_opG h1 (ev_nil (R := R)) fun u w H1 _ p1 p2 Q q => ⟨(encL E).enc xs, (encL E).enc [], (encL E).dp p1, (encL E).dp p2.is, (encL E).shaped (Nat.succ_le_succ hd) xs, (encL E).shaped (Nat.succ_le_succ hd) [], ?_⟩)
  have e : PyData.eqv ((encL E).enc xs) ((encL E).enc []) = xs.isEmpty := by
    cases xs with
    | nil => exact ((encL E).eq [] []).mpr rfl
    | cons a r =>
      show _ = false
      cases e : PyData.eqv ((encL E).enc (a :: r)) ((encL E).enc []) with
      | false => rfl
      | true => exact nomatch ((encL E).eq _ _).mp e
  rw [e]
  exact q _ H1 (Evl.Ex.refl _) rfl
/-- isinstance(x, T), T a built-in class -/
theorem ev_isi {T : String} {x : V} {t : Value} {b : Bool} (h1 : Ev ta σ H P1) (h2 : ∀ v H1, P1 v H1 → TyX K H1 v t) (hk : PySem.W.kitOne K t (.type T) = some b) [Stab P1] : Ev (tCB (rIsi K) (tCons ta (tCons (tC (.ty T)) tNil))) σ H (Eqv (.bl b)) :=
  ev_cb (ea_2 h1 ev_c) fun vs H1 _ ⟨v, w, ev, p1, p2⟩ Q q => by
    subst ev
    cases p2
    exact ⟨v, .ty T, t, .type T, b, rfl, .ty T, h2 v H1 p1, hk, q _ H1 (Evl.Ex.refl _) rfl⟩
theorem ev_isiI {T : String} {n : Int} {b : Bool} (h1 : Ev ta σ H (Eqv (.int n))) (hk : kitB "int" T = some b) : Ev (tCB (rIsi K) (tCons ta (tCons (tC (.ty T)) tNil))) σ H (Eqv (.bl b)) :=
  ev_isi (x := .non) (t := .type "int") h1 (fun v H1 p => by cases p; exact .base (.int n)) (kit_ty hk)
theorem ev_isiL {xs : List α} (h1 : Ev ta σ H (Is (jL R) xs)) : Ev (tCB (rIsi K) (tCons ta (tCons (tC (.ty "list")) tNil))) σ H (Eqv (.bl true)) :=
  ev_isi (x := .non) (t := .type "list") h1 (fun v H1 ⟨a, ws, ev, ha, _⟩ => by subst ev; exact .base (.lst ha)) (kit_ty (by decide +kernel))
/-- sorted(xs) of ints -/
theorem ev_sorted {xs : List Int} (h : Ev ta σ H (Is jLI xs)) (hz : xs.length < 64) : Ev (tCB (rSorted K) (tCons ta tNil)) σ H (NuE jLI H (fun ys => ys.Perm xs ∧ ys.Pairwise (· ≤ ·))) :=
  ev_cb (ea_1 h) fun vs H1 e ⟨v, ev, a, h1, h2⟩ Q q => by
    subst ev h1
    exact ⟨a, xs, rfl, jLI_sq h2, hz, fun ys p hp hs hn => q _ _ (Evl.Ex.new hn) ⟨ys, ⟨hp, hs⟩, p, rfl, newOf_new e hn⟩⟩
theorem ev_sum {xs : List Int} (h : Ev ta σ H (Is jLI xs)) : Ev (tCB (rSum K) (tCons ta tNil)) σ H (Eqv (.int xs.sum)) :=
  ev_cb (ea_1 h) fun vs H1 e ⟨v, ev, a, h1, h2⟩ Q q => by
    subst ev h1
    exact ⟨a, xs, rfl, jLI_sq h2, q _ H1 (Evl.Ex.refl _) rfl⟩
/-- a <= b <= c as a test -/
theorem et_chain {p p' : Int → Int → Bool} {a b c : Int} (ha : Ev ta σ H (Eqv (.int a))) (hb : Ev tb σ H (Eqv (.int b))) (hc : Ev tc σ H (Eqv (.int c))) (hp : p a b = true) (hp' : p' b c = true) : EvT (tTest (tChain (rI0 fun i j => .bl (p i j)) (rI0 fun i j => .bl (p' i j)) ta tb tc)) σ H true := fun H1 e1 Q q =>
  ha H1 e1 _ fun u H2 e2 p1 => hb H2 (e1.trans e2) _ fun w H3 e3 p2 => by
    cases p1; cases p2
    refine ⟨a, b, rfl, rfl, true, congrArg V.bl hp, ?_⟩
    refine L2.iteT (hc H3 ((e1.trans e2).trans e3) _ fun z H4 e4 p3 => ?_)
    cases p3
    exact ⟨b, c, rfl, rfl, true, congrArg V.bl hp', q H4 ((e2.trans e3).trans e4)⟩
end
end SL
end
section
set_option Elab.async false
set_option linter.all false
set_option maxRecDepth 100000
set_option maxHeartbeats 4000000
set_option autoImplicit false
namespace SL
open PySem PySem.Spec PyProof.Rows L2
section
variable {P : Program} {w : World} {K : PySem.W.Frag} {mg : Str → Option Value} {base : Heap} {C : Addr}

/-! ### crossings -/
abbrev spCb (C : Addr) : Sp := sp4 (jK C) jN jI jI jN (fun k n x y => k.good ∧ n = k.n) (fun k n x y r => r = CX.cbK k x y)
theorem c_crossings_between (T : Tp K mg C) (D : Dfn K mg "crossings_between" s_crossings_between) (m_name : Mt P w K mg base C 1 "name" (spName C)) : Cal P w K mg base 2 "crossings_between" p_crossings_between (spCb C) := by
  refine cal_mk D sc_crossings_between (fun _ _ _ _ h => len4 h) (fun _ _ _ _ _ _ us hl => match us, hl with | [_, _, _, _], _ => rfl) (fun f cdv A outer s H vs Q E hr h => ?_)
  obtain ⟨v1, v2, v3, v4, k, n, x, y, rfl, hk, hn, hx, hy, ⟨hg, rfl⟩, q⟩ := h
  have hr' := hr.mono (j := 1) (by decide)
  have hn7 := n_le hg
  refine ⟨_, (pss_cons (ps_if (pt_cmpR op_eq (pe_mt m_name T.cl hr' (pv 0)) pe_str (nomark _)) (pss_one (ps_ret (pe_callB call_abs (by rfl) T.abs (by decide +kernel) (pa_cons (pe_op op_fdiv (pe_op op_sub (pv 3) (pv 2)) (pv 1)) pa_nil)))) pss_nil)
      (pss_one (ps_ret (pe_op op_add (pe_callTy call_int1 (by rfl) T.int (by decide +kernel) (pa_cons (pe_cmpR op_gt (pv 2) (pv 3) (nomark _)) pa_nil)) (pe_callTy call_int1 (by rfl) T.int (by decide +kernel) (pa_cons (pe_and (pe_cmpR op_eq (pe_mt m_name T.cl hr' (pv 0)) pe_str (nomark _)) (pe_one (pe_cmpR op_lt (pe_op op_add (pv 2) (pv 3)) pe_int (nomark _)))) pa_nil)))))), ?_⟩
  cases hn; cases hx; cases hy
  rcases (show k.nm = .ring ∨ k.nm ≠ .ring by cases k.nm <;> simp) with hm | hm
  · refine q_yes (et_nmR (ev_var rfl hk) (decide_eq_true hm)) fun H1 e1 => ?_
    refine s_ret (ev_abs (fun n H Q q => ⟨n, rfl, q⟩) (ev_i (ev_i0 (ev_v rfl) (ev_v rfl)) (ev_v rfl) ⟨by omega, by omega⟩)) fun v H2 e2 p => q v H2 _ (e1.trans e2) rfl (by rw [CX.cb_ring hm]; exact p)
  · refine q_skip (et_nmR (ev_var rfl hk) (decide_eq_false hm)) fun H1 e1 => ?_
    have hk1 := (jK C).mono e1 hk
    refine s_ret (P := Eqv (.int ((CX.cbK k x y : Nat) : Int))) ?_ fun v H2 e2 p => q v H2 _ (e1.trans e2) rfl p
    rcases CX.mir_or k with h2 | h2
    · refine (ev_i0 (ev_intB (fun b H Q q => .inr ⟨b, rfl, q⟩) (ev_i0 (ev_v rfl) (ev_v rfl))) (ev_intB (fun b H Q q => .inr ⟨b, rfl, q⟩) (ev_and (a := true) (b := decide (x + y < 0)) (ev_nmM (ev_var rfl hk1) (decide_eq_true h2)) fun _ => ev_i0 (ev_i0 (ev_v rfl) (ev_v rfl)) ev_c))).eq (congrArg V.int ?_)
      rw [CX.cb_mirror h2, Bool.true_and, b2i, b2i]
      split <;> split <;> rfl
    · refine (ev_i0 (ev_intB (fun b H Q q => .inr ⟨b, rfl, q⟩) (ev_i0 (ev_v rfl) (ev_v rfl))) (ev_intB (fun b H Q q => .inr ⟨b, rfl, q⟩) (ev_and (a := false) (b := false) (ev_nmM (ev_var rfl hk1) (decide_eq_false h2)) fun e => nomatch e))).eq (congrArg V.int ?_)
      have e : CX.cbK k x y = if x > y then 1 else 0 := by
        obtain ⟨nm, n⟩ := k
        cases nm with
        | plain => rfl
        | mirror => exact absurd rfl h2
        | ring => exact absurd rfl hm
      rw [e, b2i]
      show (if y < x then (1 : Int) else 0) + 0 = _
      split <;> rfl
abbrev spCr (C : Addr) : Sp := sp2 (jK C) jLI jN (fun k o => k.good ∧ o.length = k.n) (fun k o r => r = CX.crK k o)
theorem sum_snoc (f : Int → Nat) {xs : List Int} {i : Nat} {x : Int} (h : xs[i]? = some x) : ((xs.take (i + 1)).map f).sum = ((xs.take i).map f).sum + f x := by
  rw [List.take_add_one, h, List.map_append, List.sum_append_nat]
  rfl
theorem c_crossings_of (T : Tp K mg C) (D : Dfn K mg "crossings_of" s_crossings_of) (m_name : Mt P w K mg base C 1 "name" (spName C)) (c_crossings_between : Cal P w K mg base 2 "crossings_between" p_crossings_between (spCb C)) : Cal P w K mg base 3 "crossings_of" p_crossings_of (spCr C) := by
  refine cal_mk D sc_crossings_of (fun _ _ _ _ h => len2 h) (fun _ _ _ _ _ _ us hl => match us, hl with | [_, _], _ => rfl) (fun f cdv A outer s H vs Q E hr h => ?_)
  obtain ⟨v1, v2, k, o, rfl, hk, ho, ⟨hg, hl⟩, q⟩ := h
  have hr' := hr.mono (j := 1) (by decide)
  have hn := n_le hg
  refine ⟨_, (pss_cons (ps_set (i := 2) sc_crossings_of.nd rfl (.inl rfl) pe_int)
      (pss_cons (ps_for PassesOwn.never rfl (pi_enum (by rfl) T.enumerate (pa_cons (pv 1) pa_nil)) (pg_tup rfl (pgs_cons (pg_name (i := 3) sc_crossings_of.nd rfl (.inl rfl)) (pgs_cons (pg_name (i := 4) sc_crossings_of.nd rfl (.inl rfl)) pgs_nil))) (pss_cons (ps_for PassesOwn.never rfl (pi_list (pe_slice sl_list (pv 1) (po_some (pe_op op_add (pv 3) pe_int)) po_none)) (pg_name (i := 5) sc_crossings_of.nd rfl (.inl rfl)) (pss_one (ps_set (i := 2) sc_crossings_of.nd rfl (.inl rfl) (pe_op op_add (pv 2) (pe_cal c_crossings_between hr (by rfl) (pa_cons (pv 0) (pa_cons (pe_callB call_len_seq (by rfl) T.len (by decide +kernel) (pa_cons (pv 1) pa_nil)) (pa_cons (pv 4) (pa_cons (pv 5) pa_nil)))))))))
      (pss_one (ps_set (i := 2) sc_crossings_of.nd rfl (.inl rfl) (pe_op op_add (pv 2) (pe_callTy call_int1 (by rfl) T.int (by decide +kernel) (pa_cons (pe_and (pe_cmpR op_eq (pe_mt m_name T.cl hr' (pv 0)) pe_str (nomark _)) (pe_one (pe_cmpR op_lt (pv 4) pe_int (nomark _)))) pa_nil)))))))
      (pss_one (ps_ret (pv 2))))), ?_⟩
  obtain ⟨a, rfl, ha⟩ := ho
  refine q_set (P := Eqv (.int ((0 : Nat) : Int))) ev_c fun v H1 e1 p1 => ?_
  cases p1
  refine q_enum (xs := o) (H0 := H) (ev_v rfl) ha e1 (fun i σ' H' => Ex H H' ∧ ∃ (c : Nat) (y3 y4 y5 : Option V), σ' = [some v1, some (.ref a), some (.int (c : Int)), y3, y4, y5] ∧ c + CX.crK k (o.drop i) = CX.crK k o)
    (fun H2 e2 => ⟨e1.trans e2, 0, none, none, none, rfl, Nat.zero_add _⟩) (fun i σ' H' p => p.1) (fun i x σ' H' H2 hx pv e2 _ => ?_) (fun σ' H' pv => ?_)
  · obtain ⟨ee, c, y3, y4, y5, rfl, hc⟩ := pv
    have hi : i < o.length := (List.getElem?_eq_some_iff.mp hx).1
    have ee2 := ee.trans e2
    have ho2 := jLI.mono ee2 (mapLI ha)
    refine q_forX (xs := o.drop (i + 1)) (R := jI) (ev_fromL (a := i + 1) (ev_var rfl ho2).L (ev_i0 (ev_v rfl) ev_c) (by omega)) (fun j σ' H' => ∃ (y5 : Option V), σ' = [some v1, some (.ref a), some (.int ((c + (((o.drop (i + 1)).take j).map (CX.cbK k x)).sum : Nat) : Int)), some (.int (i : Int)), some (.int x), y5]) (fun H3 e3 => ⟨y5, rfl⟩) (fun j z u σ' H' N e3 rz hz pv hN => ?_) (fun σ' H' e3 pv => ?_)
    · obtain ⟨y5, rfl⟩ := pv
      cases rz
      have ee3 := ee2.trans e3
      refine s_set (P := Eqv (.int ((c + (((o.drop (i + 1)).take (j + 1)).map (CX.cbK k x)).sum : Nat) : Int))) ?_ fun v H4 e4 p4 => hN _ _ e4 ⟨some (.int z), ?_⟩
      · refine (ev_i0 (ev_v rfl) (nuN (ev_c4 (x := k) (y := k.n) (z := x) (t := z) (ev_var rfl ((jK C).mono ee3 hk)) (isNt' (ev_lenI lenR (ev_var rfl (jLI.mono e3 ho2))) (by rw [hl])) (ev_v rfl) (ev_v rfl) ⟨hg, rfl⟩))).eq (congrArg V.int ?_)
        rw [sum_snoc _ hz]
        omega
      · cases p4
        rfl
    · obtain ⟨y5, rfl⟩ := pv
      have ee3 := ee2.trans e3
      rw [List.take_length]
      refine s_set (P := Eqv (.int ((c + ((o.drop (i + 1)).map (CX.cbK k x)).sum + CX.ownK k x : Nat) : Int))) ?_ fun v H4 e4 p4 => ⟨ee3.trans e4, c + ((o.drop (i + 1)).map (CX.cbK k x)).sum + CX.ownK k x, some (.int (i : Int)), some (.int x), y5, ?_, ?_⟩
      · rcases CX.mir_or k with h2 | h2
        · refine (ev_i0 (ev_v rfl) (ev_intB (fun b H Q q => .inr ⟨b, rfl, q⟩) (ev_and (a := true) (b := decide (x < 0)) (ev_nmM (ev_var rfl ((jK C).mono ee3 hk)) (decide_eq_true h2)) fun _ => ev_i0 (ev_v rfl) ev_c))).eq (congrArg V.int ?_)
          rw [CX.own_mirror h2, Bool.true_and, b2i]
          split <;> omega
        · refine (ev_i0 (ev_v rfl) (ev_intB (fun b H Q q => .inr ⟨b, rfl, q⟩) (ev_and (a := false) (b := false) (ev_nmM (ev_var rfl ((jK C).mono ee3 hk)) (decide_eq_false h2)) fun e => nomatch e))).eq (congrArg V.int ?_)
          have e : CX.ownK k x = 0 := by
            obtain ⟨nm, n⟩ := k
            cases nm with
            | plain => rfl
            | mirror => exact absurd rfl h2
            | ring => rfl
          rw [e]
          rfl
      · cases p4
        rfl
      · rw [← hc, List.drop_eq_getElem_cons hi, (List.getElem?_eq_some_iff.mp hx).2, CX.cr_cons]
        omega
  · obtain ⟨ee, c, y3, y4, y5, rfl, hc⟩ := pv
    rw [List.drop_length] at hc
    have hc2 : c = CX.crK k o := hc
    refine s_ret (ev_v rfl) fun v H3 e3 pv => ?_
    cases pv
    exact q _ H3 _ (ee.trans e3) hc2 rfl
/-! ### is_whole, is_order_list, is_let_order -/
abbrev spWh (C : Addr) : Sp := sp1 jI jB (fun _ => True) (fun _ r => r = true)
theorem c_is_whole (T : Tp K mg C) (D : Dfn K mg "is_whole" s_is_whole) : Cal P w K mg base 1 "is_whole" p_is_whole (spWh C) := by
  refine cal_mk D sc_is_whole (fun _ _ _ _ h => len1 h) (fun _ _ _ _ _ _ us hl => match us, hl with | [_], _ => rfl) (fun f cdv A outer s H vs Q E hr h => ?_)
  obtain ⟨v, n, rfl, hn, _, q⟩ := h
  cases hn
  refine ⟨_, (pss_one (ps_ret (pe_and (pe_callB call_isi (by rfl) T.isinstance (by decide +kernel) (pa_cons (pv 0) (pa_cons (pe_bltn (v := .ty "int") (by rfl) T.int (by decide +kernel) rfl) pa_nil))) (pe_one (pe_not (pe_callB call_isi (by rfl) T.isinstance (by decide +kernel) (pa_cons (pv 0) (pa_cons (pe_bltn (v := .ty "bool") (by rfl) T.bool (by decide +kernel) rfl) pa_nil)))))))), ?_⟩
  exact s_ret (ev_and (a := true) (b := true) (ev_isiI (ev_v rfl) (by decide +kernel)) fun _ => ev_not (a := false) (ev_isiI (ev_v rfl) (by decide +kernel))) fun v H2 e2 p => q v H2 _ e2 rfl p
abbrev spOl (C : Addr) : Sp := sp2 (jK C) jLI jB (fun k o => k.good ∧ CX.Sh k o) (fun k o r => r = true)
theorem sum_start (k : CX.Kd) (hg : k.good) (hm : k.nm = .ring) : k.start.sum = (k.n : Int) * ((k.n : Int) - 1) / 2 := by
  obtain ⟨nm, n⟩ := k
  cases hm
  have h : 2 ≤ n ∧ n ≤ 5 := hg
  have hc : n = 2 ∨ n = 3 ∨ n = 4 ∨ n = 5 := by omega
  rcases hc with rfl | rfl | rfl | rfl <;> rfl
theorem start_flat {k : CX.Kd} (hm : k.nm ≠ .mirror) : ((List.range ((k.n : Nat) : Int).toNat).map fun i => ((i : Nat) : Int)) = k.start := by
  unfold CX.Kd.start
  rw [CX.first_flat hm, show ((k.n : Nat) : Int).toNat = k.n by omega]
  rfl
theorem c_is_order_list (T : Tp K mg C) (D : Dfn K mg "is_order_list" s_is_order_list) (m_name : Mt P w K mg base C 1 "name" (spName C)) (m_size : Mt P w K mg base C 1 "size" (spSize C)) (c_is_whole : Cal P w K mg base 1 "is_whole" p_is_whole (spWh C)) : Cal P w K mg base 2 "is_order_list" p_is_order_list (spOl C) := by
  refine cal_mk D sc_is_order_list (fun _ _ _ _ h => len2 h) (fun _ _ _ _ _ _ us hl => match us, hl with | [_, _], _ => rfl) (fun f cdv A outer s H vs Q E hr h => ?_)
  obtain ⟨v1, v2, k, o, rfl, hk, ho, ⟨hg, hsh⟩, q⟩ := h
  have hr' := hr.mono (j := 1) (by decide)
  have hn := n_le hg
  have hl := hsh.len
  refine ⟨_, (pss_cons (ps_set (i := 2) sc_is_order_list.nd rfl (.inr rfl) (pe_mt m_size T.cl hr' (pv 0)))
      (pss_cons (ps_if (PW.pt (pw_or (pt_not (pt_val (pe_callB call_isi (by rfl) T.isinstance (by decide +kernel) (pa_cons (pv 1) (pa_cons (pe_bltn (v := .ty "list") (by rfl) T.list (by decide +kernel) rfl) pa_nil))))) (pw_or (pt_cmpR op_ne (pe_callB call_len_seq (by rfl) T.len (by decide +kernel) (pa_cons (pv 1) pa_nil)) (pv 2) (nomark _)) (pw_or1 (pt_cmpR (op_neD hr.units) (pe_lc (own := [("item", 3)]) (by rfl) sc_is_order_list.nd (pi_list (pv 1)) (blkOk_by (own := [("item", 3)]) (N := N_is_order_list) (sc := defScope s_is_order_list) (by decide +kernel)) (fun _ _ _ _ _ => (pg_name (i := 3) sc_is_order_list.nd rfl (.inl rfl))) (fun _ _ _ _ _ => pts_one (pt_not (pt_val (pe_cal c_is_whole hr' (by rfl) (pa_cons (pv 3) pa_nil))))) (fun _ _ _ _ _ => (pv 3))) (pe_lst pa_nil) (nomark _)))))) (pss_one (ps_ret pe_bl)) pss_nil)
      (pss_cons (ps_if (pt_cmpR op_eq (pe_mt m_name T.cl hr' (pv 0)) pe_str (nomark _)) (pss_one (ps_ret (pe_cmpR (op_eqD hr.units) (pe_callB cr_sorted (by rfl) T.sorted (by decide +kernel) (pa_cons (pv 1) pa_nil)) (pe_listRg rfl (by rfl) T.list (prg_1 (by rfl) T.range (pv 2))) (nomark _)))) pss_nil)
      (pss_cons (ps_if (pt_cmpR op_eq (pe_mt m_name T.cl hr' (pv 0)) pe_str (nomark _)) (pss_one (ps_ret (pe_cmpR (op_eqD hr.units) (pe_callB cr_sorted (by rfl) T.sorted (by decide +kernel) (pa_cons (pe_lc (own := [("item", 3)]) (by rfl) sc_is_order_list.nd (pi_list (pv 1)) (blkOk_by (own := [("item", 3)]) (N := N_is_order_list) (sc := defScope s_is_order_list) (by decide +kernel)) (fun _ _ _ _ _ => (pg_name (i := 3) sc_is_order_list.nd rfl (.inl rfl))) (fun _ _ _ _ _ => pts_nil) (fun _ _ _ _ _ => (pe_callB call_abs (by rfl) T.abs (by decide +kernel) (pa_cons (pv 3) pa_nil)))) pa_nil)) (pe_listRg rfl (by rfl) T.list (prg_2 (by rfl) T.range pe_int (pe_op op_add (pv 2) pe_int))) (nomark _)))) pss_nil)
      (pss_one (ps_ret (pe_and (pe_cmpR (op_eqD hr.units) (pe_callB cr_sorted (by rfl) T.sorted (by decide +kernel) (pa_cons (pe_lc (own := [("item", 3)]) (by rfl) sc_is_order_list.nd (pi_list (pv 1)) (blkOk_by (own := [("item", 3)]) (N := N_is_order_list) (sc := defScope s_is_order_list) (by decide +kernel)) (fun _ _ _ _ _ => (pg_name (i := 3) sc_is_order_list.nd rfl (.inl rfl))) (fun _ _ _ _ _ => pts_nil) (fun _ _ _ _ _ => (pe_op op_mod (pv 3) (pv 2)))) pa_nil)) (pe_listRg rfl (by rfl) T.list (prg_1 (by rfl) T.range (pv 2))) (nomark _)) (pe_one (pe_cmpR op_eq (pe_callB (cr_sum rfl) (by rfl) T.sum (by decide +kernel) (pa_cons (pv 1) pa_nil)) (pe_op op_fdiv (pe_op op_mul (pv 2) (pe_op op_sub (pv 2) pe_int)) pe_int) (nomark _)))))))))), ?_⟩
  refine q_set (ev_size (ev_var rfl hk)) fun v H1 e1 p1 => ?_
  cases p1
  have hk1 := (jK C).mono e1 hk
  have ho1 := jLI.mono e1 ho
  have lcN : EvT (tTest (tOp (rNeD K) (tLc (iList K (tVar 1)) (gName 3) (tNot (tB (tCall (spWh C) [] E0 (tCons (tVar 3) tNil)))) (tVar 3) [3]) (tLst tNil))) [some v1, some v2, some (V.int (k.n : Int)), none] H1 false := by
    have e := ev_lc (K := K) (σ := [some v1, some v2, some (V.int (k.n : Int)), none]) (vs := [3]) (j := 3) (S := jI) (fun _ => false) id (ev_var (i := 1) rfl ho1).L (by omega) (fun _ => rfl) (fun i x v H3 e3 hx rx => et_not (a := true) (et_B (nuB (ev_c1 (x := x) (ev_var (i := 3) rfl rx) trivial)))) (fun i x v H3 e3 hx rx hf => nomatch hf) (tt := tNot (tB (tCall (spWh C) [] E0 (tCons (tVar 3) tNil)))) (te := tVar 3)
    have e2 := et_neN (K := K) encI e.is
    have hf : ∀ l : List Int, l.filter (fun _ => false) = [] := fun l => List.filter_eq_nil_iff.mpr fun a _ h => nomatch h
    rw [hf] at e2
    exact e2
  refine q_skip (et_or0 (et_not (a := true) (et_B (ev_isiL (ev_var rfl ho1).L))) (et_or0 ((et_neI (ev_lenI lenR (ev_var rfl ho1)) (ev_v rfl)).eq (by rw [decide_eq_true (by rw [hl])]; rfl)) lcN)) fun H2 e2 => ?_
  have hk2 := (jK C).mono e2 hk1
  have ho2 := jLI.mono e2 ho1
  have hkc : k.nm = .plain ∨ k.nm = .mirror ∨ k.nm = .ring := by cases k.nm <;> simp
  rcases hkc with hm | hm | hm
  · refine q_yes (et_nmP (ev_var rfl hk2) (decide_eq_true hm)) fun H3 e3 => ?_
    have ho3 := jLI.mono e3 ho2
    have hm2 : k.nm ≠ .mirror := fun z => by rw [hm] at z; cases z
    have hp : o.map (CX.absK k) = o := by
      obtain ⟨nm, n⟩ := k
      cases hm
      exact List.map_id' o
    have srt : Ev (tCB (rSorted K) (tCons (tVar 1) tNil)) [some v1, some v2, some (V.int (k.n : Int)), none] H3 (Is jLI k.start) := (ev_sorted (ev_var rfl ho3) (by omega)).imp fun v H4 _ ⟨ys, ⟨h1, h2⟩, h3⟩ => by
      have e := CX.sorted_start (k := k) h2 (h1.trans (by have z := hsh.perm; rw [hp] at z; exact z))
      subst e
      exact jLI.mono newOf_ex h3
    exact s_ret ((ev_eqD encLI srt (ev_rg1 (xs := k.start) (ev_v rfl) (.of_le (by omega) (by omega) (by omega) (by omega)) (start_flat hm2)).is).eq (by rw [decide_eq_true rfl])) fun v H4 e4 p => q v H4 _ (((e1.trans e2).trans e3).trans e4) rfl p
  · refine q_skip (et_nmP (ev_var rfl hk2) (decide_eq_false (fun z => by rw [hm] at z; cases z))) fun H3 e3 => ?_
    have hk3 := (jK C).mono e3 hk2
    refine q_yes (et_nmM (ev_var rfl hk3) (decide_eq_true hm)) fun H4 e4 => ?_
    have ho4 := jLI.mono (e3.trans e4) ho2
    have abs := ev_lcA (K := K) (σ := [some v1, some v2, some (V.int (k.n : Int)), none]) (vs := [3]) (j := 3) (S := jI) (fun x => ((x.natAbs : Nat) : Int)) (ev_var (i := 1) rfl ho4).L (by omega) (fun _ => rfl) (fun i x v H3 e3 hx rx => ev_abs (r := fun xs H Q => ∃ i, xs = [.int i] ∧ Q (.int (if i < 0 then -i else i)) H) (fun n H Q q => ⟨n, rfl, q⟩) (ev_v (i := 3) (v := .int x) (congrArg (fun z => some (some z)) rx)))
    have hp : o.map (CX.absK k) = o.map (fun x => ((x.natAbs : Nat) : Int)) := by
      obtain ⟨nm, n⟩ := k
      cases hm
      rfl
    have srt := (ev_sorted (K := K) abs.LI.is (by rw [List.length_map]; omega)).imp (P' := Is jLI k.start) fun v H4 _ ⟨ys, ⟨h1, h2⟩, h3⟩ => by
      have e := CX.sorted_start (k := k) h2 (h1.trans (by have z := hsh.perm; rw [hp] at z; exact z))
      subst e
      exact jLI.mono newOf_ex h3
    have rg : ((List.range ((((k.n : Int) + 1)) - 1).toNat).map fun i => (1 : Int) + ((i : Nat) : Int)) = k.start := by
      have z := start_rg k
      rw [CX.first_mirror hm] at z
      rw [← z]
      congr 2
      omega
    exact s_ret ((ev_eqD encLI srt (ev_rg2 (xs := k.start) ev_c (ev_i0 (ev_v rfl) ev_c) (.of_le (by omega) (by omega) (by omega) (by omega)) rg).is).eq (by rw [decide_eq_true rfl])) fun v H5 e5 p => q v H5 _ ((((e1.trans e2).trans e3).trans e4).trans e5) rfl p
  · refine q_skip (et_nmP (ev_var rfl hk2) (decide_eq_false (fun z => by rw [hm] at z; cases z))) fun H3 e3 => ?_
    have hk3 := (jK C).mono e3 hk2
    have hm2 : k.nm ≠ .mirror := fun z => by rw [hm] at z; cases z
    refine q_skip (et_nmM (ev_var rfl hk3) (decide_eq_false hm2)) fun H4 e4 => ?_
    have ho4 := jLI.mono (e3.trans e4) ho2
    have md := ev_lcA (K := K) (σ := [some v1, some v2, some (V.int (k.n : Int)), none]) (vs := [3]) (j := 3) (S := jI) (fun x => x % (k.n : Int)) (ev_var (i := 1) rfl ho4).L (by omega) (fun _ => rfl) (fun i x v H3 e3 hx rx => ev_i (C := fun _ j => 0 < j) (g := fun i j => .int (i % j)) (ev_v (i := 3) (v := .int x) (congrArg (fun z => some (some z)) rx)) (ev_v (i := 2) rfl) (by omega))
    have hp : o.map (CX.absK k) = o.map (fun x => x % (k.n : Int)) := by
      obtain ⟨nm, n⟩ := k
      cases hm
      rfl
    have srt := (ev_sorted (K := K) md.LI.is (by rw [List.length_map]; omega)).imp (P' := Is jLI k.start) fun v H4 _ ⟨ys, ⟨h1, h2⟩, h3⟩ => by
      have e := CX.sorted_start (k := k) h2 (h1.trans (by have z := hsh.perm; rw [hp] at z; exact z))
      subst e
      exact jLI.mono newOf_ex h3
    refine s_ret (ev_and (a := true) (b := true) ((ev_eqD encLI srt (ev_rg1 (xs := k.start) (ev_v rfl) (.of_le (by omega) (by omega) (by omega) (by omega)) (start_flat hm2)).is).eq (by rw [decide_eq_true rfl])) fun _ => ?_) fun v H5 e5 p => q v H5 _ ((((e1.trans e2).trans e3).trans e4).trans e5) rfl p
    refine (ev_eq (ev_sum (ev_var rfl ho4)) (ev_i (ev_i (ev_v rfl) (ev_i0 (ev_v rfl) ev_c) (.inl ⟨by omega, by omega⟩)) ev_c ⟨by decide, by decide⟩) rfl).eq ?_
    rw [dec_int, hsh.sum hm, sum_start k hg hm, decide_eq_true rfl]
abbrev spLet (C : Addr) : Sp := sp2 (jK C) jLI jB (fun k o => k.good ∧ CX.Sh k o ∧ CX.crK k o ≤ 60) (fun k o r => r = true)
theorem c_is_let_order (T : Tp K mg C) (D : Dfn K mg "is_let_order" s_is_let_order) (c_is_order_list : Cal P w K mg base 2 "is_order_list" p_is_order_list (spOl C)) (c_crossings_of : Cal P w K mg base 3 "crossings_of" p_crossings_of (spCr C)) : Cal P w K mg base 4 "is_let_order" p_is_let_order (spLet C) := by
  refine cal_mk D sc_is_let_order (fun _ _ _ _ h => len2 h) (fun _ _ _ _ _ _ us hl => match us, hl with | [_, _], _ => rfl) (fun f cdv A outer s H vs Q E hr h => ?_)
  obtain ⟨v1, v2, k, o, rfl, hk, ho, ⟨hg, hsh, h60⟩, q⟩ := h
  obtain ⟨t, hmc⟩ := T.mostC
  refine ⟨_, (pss_one (ps_ret (pe_and (pe_cal c_is_order_list (hr.mono (by decide)) (by rfl) (pa_cons (pv 0) (pa_cons (pv 1) pa_nil))) (pe_one (pe_cmpR op_le (pe_cal c_crossings_of hr (by rfl) (pa_cons (pv 0) (pa_cons (pv 1) pa_nil))) (pe_glob (v := .int 60) rfl hmc ⟨_, rfl⟩) (nomark _)))))), ?_⟩
  refine s_ret (ev_and (a := true) (b := true) (nuB (ev_c2 (ev_var rfl hk) (ev_var rfl ho) ⟨hg, hsh⟩)) fun _ => ?_) fun v H2 e2 p => q v H2 _ e2 rfl p
  exact (ev_i0 (nuN (ev_c2 (ev_var rfl hk) (ev_var rfl ho) ⟨hg, hsh.len⟩)) ev_c).eq (congrArg V.bl (decide_eq_true (by omega)))
end
end SL
end
section
set_option Elab.async false
set_option linter.all false
set_option maxRecDepth 100000
set_option maxHeartbeats 4000000
set_option autoImplicit false
/-! xs[-2::-1]; appending; pairs stored; turned lists. -/
namespace SL
open PySem PySem.Spec PyProof.Rows L2
def encN : Enc jN where
  enc := fun n => .int n
  d := 0
  dp := fun {K H v x} h => by
    cases h
    exact .int _
  lay := fun _ => by simp only [PyData.canLay0]
  dep := fun _ => by simp only [PyData.depth]; exact Nat.le_refl 0
  eq := fun x y => by
    simp only [PyData.eqv]
    exact beq_iff_eq.trans ⟨fun h => Int.ofNat.inj h, fun h => by rw [h]⟩
theorem pick_m2 (items : Array Value) (h : 0 < items.size) : slicePick items (some (-2)) none (some (-1)) = (items.toList.dropLast).reverse.toArray := by
  unfold slicePick
  have hb : sliceBounds (some (-2)) none (some (-1)) items.size = (((items.size - 1 : Nat) : Int) - 1, -1, -1) := by
    show (max (-1) (min ((-2 : Int) + (items.size : Int)) ((items.size : Int) - 1)), (-1 : Int), (-1 : Int)) = _
    rw [show max (-1) (min ((-2 : Int) + (items.size : Int)) ((items.size : Int) - 1)) = ((items.size - 1 : Nat) : Int) - 1 by omega]
  rw [hb]
  show ((sliceRange (((items.size - 1 : Nat) : Int) - 1) (-1) (-1)).filterMap (items[·]?)).toArray = _
  rw [PySem.W.krv_sliceRange, PySem.W.krv_range, List.filterMap_reverse]
  have e := pick_run items 0 (items.size - 1)
  have e2 : (List.range (items.size - 1)).map (0 + ·) = List.range (items.size - 1) := by
    rw [show ((0 + ·) : Nat → Nat) = id from funext fun k => Nat.zero_add k, List.map_id]
  rw [e2] at e
  rw [e, List.drop_zero, List.dropLast_eq_take, Array.length_toList]
/-- xs[-2::-1] -/
def tRev2 (K : PySem.W.Frag) (te : TE) : TE := fun σ H Q => te σ H fun x H1 => ∃ a xs, x = .ref a ∧ SqL K H1 a xs ∧ xs ≠ [] ∧ ∀ p, H1 p = none → Q (.ref p) (upd H1 p (.lst xs.dropLast.reverse))
section
variable {X : Cx}
theorem vals_dropLast {xs : List V} {us : List Value} (r : Vals xs us) : Vals xs.dropLast us.dropLast := by
  rw [List.dropLast_eq_take, List.dropLast_eq_take, r.length]
  exact r.take _
theorem pe_rev2 {e : Expr} {te : TE} {k k' : Nat} {p1 p2 p3 q1 q2 pos : Pos} (he : PE X e te) : PE X (.Subscript e (.Slice (some (.UnaryOp .USub (.Constant (.int 2) k' q1) q2)) none (some (.UnaryOp .USub (.Constant (.int 1) k p1) p2)) p3) pos) (tRev2 X.K te) := by
  refine ⟨fun pins s σ H Q I h => ?_⟩
  refine Subscript_ (thn (he.run pins s σ H _ I h) fun v s1 ⟨x, H1, I1, r1, q1'⟩ => ?_)
  obtain ⟨a, xs, ex, hx, hne, q⟩ := q1'
  subst ex
  cases r1
  have hst : PO X (some (.UnaryOp .USub (.Constant (.int 1) k p1) p2)) (tPart (tUn (rU fun i => .int (-i)) (tC (.int 1)))) := po_some (pe_un un_neg pe_int)
  have hlo : PO X (some (.UnaryOp .USub (.Constant (.int 2) k' q1) q2)) (tPart (tUn (rU fun i => .int (-i)) (tC (.int 2)))) := po_some (pe_un un_neg pe_int)
  refine wpAny_Slice (thn (hlo.run pins s1 σ H1 (fun o H2 => o = some (-2) ∧ H2 = H1) I1 ⟨2, rfl, -2, rfl, rfl, rfl⟩) fun vl s2 ⟨l, H2, I2, pl, el, e2⟩ => ?_)
  subst el e2
  refine thn (po_none.run pins s2 σ H2 (fun o H3 => o = none ∧ H3 = H2) I2 ⟨rfl, rfl⟩) fun vu s3 ⟨u, H3, I3, pu, eu, e3⟩ => ?_
  subst eu e3
  refine thn (hst.run pins s3 σ H3 (fun o H4 => o = some (-1) ∧ H4 = H3) I3 ⟨1, rfl, -1, rfl, rfl, rfl⟩) fun vs s4 ⟨o, H4, I4, ps, eo, e4⟩ => ?_
  subst eo e4
  have I5 : Inv X pins σ H4 { s4 with heap := s4.heap.push { cls := .type "slice", data := .fields #[vl, vu, vs] } } := I4.kept (t' := s4.toks) fun b ob q => Heap.get?_push_of_some _ q
  obtain ⟨its, r, ht, hz⟩ := I5.list hx
  have hlen := r.length
  have hpos : 0 < its.toArray.size := by
    rw [List.size_toArray, ← hlen]
    exact List.length_pos_iff.mpr hne
  refine tail_any (ops := [.ref a, .ref s4.heap.objs.size]) ht.isList.typeIs (PySem.slot_list_getitem.lookup) ?_ (by with_unfolding_all rfl)
  refine wpAny_getItem_list_slice ht.isList (Heap.IsSliceOf.new _ vl vu vs) pl pu ps (by decide) ?_ (by rw [List.size_toArray]; omega)
  rw [pick_m2 _ hpos]
  refine ⟨.ref _, _, I5.laid (t' := s4.toks) (o := .lst xs.dropLast.reverse) (fun b ob q => Heap.get?_push_of_some _ q) (Nat.le_refl _) ?_, rfl, q _ (I5.hok.fresh (Nat.le_refl _))⟩
  refine ⟨by rw [List.length_reverse, List.length_dropLast]; omega, _, 0, (vals_dropLast r).reverse, Heap.get?_push_size _ ?_⟩
  rfl
end
section
variable {K : PySem.W.Frag} {σ : L2.St} {H H' : Hp} {ta tb tc td te tl : TE} {tt tu : TT} {x y z v : V} {P P' P1 P2 P3 : V → Hp → Prop} {D : Ends} {ts tw tz : TS} {i j : Nat} {C : Addr} {k : CX.Kd} {α β γ δ ε : Type} {R : RP α} {S : RP β} {vs : List Nat}
theorem ev_rev2 {xs : List α} (h : Ev te σ H (Is (jL R) xs)) (hne : xs ≠ []) : Ev (tRev2 K te) σ H (Is (jL R) xs.dropLast.reverse) := fun H1 e1 Q q =>
  h H1 e1 _ fun v H2 e2 ⟨a, ws, ev, ha, hp⟩ => by
    subst ev
    have hl := paired_len hp
    refine ⟨a, ws, rfl, .inl (.inl ha), fun z => hne (List.eq_nil_of_length_eq_zero (by rw [← hl, z]; rfl)), fun p hn => q _ _ (e2.trans (Evl.Ex.new hn)) ⟨p, _, rfl, upd_same, ?_⟩⟩
    rw [List.dropLast_eq_take, List.dropLast_eq_take, hl]
    exact paired_rev (paired_take _ (paired_mono (fun _ _ z => R.mono (Evl.Ex.new hn) z) hp))
/-- xs[::-1] -/
theorem ev_revL {xs : List α} (h : Ev te σ H (Is (jL R) xs)) : Ev (tRevL K te) σ H (Is (jL R) xs.reverse) := fun H1 e1 Q q =>
  h H1 e1 _ fun v H2 e2 ⟨a, ws, ev, ha, hp⟩ => by
    subst ev
    exact ⟨a, ws, rfl, .inl (.inl ha), fun p hn => q _ _ (e2.trans (Evl.Ex.new hn)) ⟨p, _, rfl, upd_same, paired_rev (paired_mono (fun _ _ z => R.mono (Evl.Ex.new hn) z) hp)⟩⟩
theorem ev_revN {xs : List Nat} (h : Ev te σ H (Is (jL jN) xs)) : Ev (tRevL K te) σ H (Nu (jL jN) H xs.reverse) := fun H1 e1 Q q =>
  h H1 e1 _ fun v H2 e2 ⟨a, ws, ev, ha, hp⟩ => by
    subst ev
    exact ⟨a, ws, rfl, .inl (.inl ha), fun p hn => q _ _ (e2.trans (Evl.Ex.new hn)) ⟨p, _, rfl, newOf_new (e1.trans e2) hn, paired_rev hp⟩⟩
/-- .. where all items are new -/
theorem ev_revNu {xs : List α} (h : Ev te σ H (Nu (jL R) H xs)) : Ev (tRevL K te) σ H (Nu (jL R) H xs.reverse) := fun H1 e1 Q q =>
  h H1 e1 _ fun v H2 e2 ⟨a, ws, ev, ha, hp⟩ => by
    subst ev
    exact ⟨a, ws, rfl, .inl (.inl (newOf_ex _ _ ha)), fun p hn => q _ _ (e2.trans (Evl.Ex.new hn)) ⟨p, _, rfl, newOf_new (e1.trans e2) hn, paired_rev (paired_mono (fun _ _ z => R.mono (newOf_upd hn) z) hp)⟩⟩
/-- xs.append(e) -/
theorem s_app {l : Addr} {xs : List V} (hl : H l = some (.lst xs)) (ha : Ev ta σ H (Eqv (.ref l))) (h : Ev te σ H P) (hz : xs.length < 100000) (k : ∀ v H1, Ex H H1 → P v H1 → D.nx σ (upd H1 l (.lst (xs ++ [v])))) :
    tDrop (tBM K "list" rAppend ta (tCons te tNil)) D σ H := ha H (Evl.Ex.refl H) _ fun o H1 e1 p1 => by
  cases p1
  exact ⟨Or.inl ⟨rfl, xs, .inl (.inl (e1 l _ hl))⟩, h H1 e1 _ fun v H2 e2 p => ⟨l, xs, v, rfl, rfl, e2 l _ (e1 l _ hl), Evl.sz_lt hz, k v H2 (e1.trans e2) p⟩⟩
theorem q_app {l : Addr} {xs : List V} (hl : H l = some (.lst xs)) (ha : Ev ta σ H (Eqv (.ref l))) (h : Ev te σ H P) (hz : xs.length < 100000) (k : ∀ v H1, Ex H H1 → P v H1 → tz D σ (upd H1 l (.lst (xs ++ [v])))) :
    tSeq (tDrop (tBM K "list" rAppend ta (tCons te tNil))) tz D σ H := s_app (D := { D with nx := tz D }) hl ha h hz k
/-- x, y = a, b -/
theorem q_par {P2 : Hp → V → Hp → Prop} [s1 : Stab P1] (h1 : Ev ta σ H P1) (h2 : ∀ v H1, Ex H H1 → P1 v H1 → Ev tb σ H1 (P2 H1)) (k : ∀ v w H1 H2, Ex H H1 → P1 v H1 → Ex H1 H2 → P2 H1 w H2 → tz D ((σ.set i (some v)).set j (some w)) H2) : tSeq (tPar i j (tCons ta (tCons tb tNil))) tz D σ H :=
  h1 H (Evl.Ex.refl H) _ fun v H1 e1 p1 => h2 v H1 e1 p1 H1 (Evl.Ex.refl H1) _ fun w H2 e2 p2 => ⟨v, w, rfl, k v w H1 H2 e1 p1 e2 p2⟩
/-- calls one of whose arguments is only known to have p -/
theorem ev_c3E {R1 : RP α} {R2 : RP β} {R3 : RP γ} {RR : RP ε} {x : α} {y : β} {p : γ → Prop} {E : XK} {pre : α → β → γ → Prop} {post : α → β → γ → ε → Prop} (h1 : Ev ta σ H (Is R1 x)) (h2 : Ev tb σ H (Is R2 y)) (h3 : Ev tc σ H (NuE R3 H p)) (hp : ∀ z, p z → pre x y z) : Ev (tCall (sp3 R1 R2 R3 RR pre post) [] E (tCons ta (tCons tb (tCons tc tNil)))) σ H (NuE RR H (fun r => ∃ z, p z ∧ post x y z r)) :=
  ev_call (ea_3 h1 h2 h3) fun vs H1 e ⟨v, w, u, ev, p1, p2, z, pz, p3⟩ Q E q => ⟨v, w, u, x, y, z, ev, p1, p2, R3.mono newOf_ex p3, hp z pz, fun u H' r e2 po rr => q u H' e2 ⟨r, ⟨z, pz, po⟩, RR.mono (newOf_back e) rr⟩⟩
theorem ev_c2E {R1 : RP α} {R2 : RP β} {RR : RP ε} {x : α} {p : β → Prop} {E : XK} {pre : α → β → Prop} {post : α → β → ε → Prop} (h1 : Ev ta σ H (Is R1 x)) (h2 : Ev tb σ H (NuE R2 H p)) (hp : ∀ z, p z → pre x z) : Ev (tCall (sp2 R1 R2 RR pre post) [] E (tCons ta (tCons tb tNil))) σ H (NuE RR H (fun r => ∃ z, p z ∧ post x z r)) :=
  ev_call (ea_2 h1 h2) fun vs H1 e ⟨v, w, ev, p1, z, pz, p2⟩ Q E q => ⟨v, w, x, z, ev, p1, R2.mono newOf_ex p2, hp z pz, fun u H' r e2 po rr => q u H' e2 ⟨r, ⟨z, pz, po⟩, RR.mono (newOf_back e) rr⟩⟩
theorem NuE.imp {R : RP α} {p p' : α → Prop} {v : V} {H0 H : Hp} (h : NuE R H0 p v H) (k : ∀ x, p x → p' x) : NuE R H0 p' v H := by
  obtain ⟨x, h1, h2⟩ := h
  exact ⟨x, k x h1, h2⟩
theorem NuE.nu {R : RP α} {x : α} {v : V} {H0 H : Hp} (h : NuE R H0 (fun r => r = x) v H) : Nu R H0 x v H := by
  obtain ⟨y, rfl, h2⟩ := h
  exact h2
/-- while -/
theorem q_while (W : Nat → L2.St → Hp → Prop) (m0 : Nat) (h0 : W m0 σ H)
    (hs : ∀ m σ' H', W m σ' H' → ∃ b, EvT tt σ' H' b ∧ (b = true → ∀ H1, Ex H' H1 → ∃ N : L2.St → Hp → Prop, (∀ σ2 H2, N σ2 H2 → ∃ m', m' < m ∧ W m' σ2 H2) ∧ ts { D with nx := N, ct := N, bk := tz D } σ' H1) ∧ (b = false → ∀ H1, Ex H' H1 → tz D σ' H1)) : tSeq (tWhile tt ts) tz D σ H :=
  Evl.q_while W m0 h0 hs
end
end SL
end
section
set_option Elab.async false
set_option linter.all false
set_option autoImplicit false
/-! The system of a kind, by names without the kind's goodness. -/
namespace CX
section
variable {k : Kd} {o q x y : List Int} {s t : Nat} {r : List Nat} {xs ys : List (List Int)}
def RedK (k : Kd) (r : List Nat) (o : List Int) : Prop := ∃ hg : k.good, Red (sysK k hg) r o
def gainK (k : Kd) (o : List Int) (s : Nat) : List Int := if fallK k o s = true then o else byK k o s
noncomputable def starK (k : Kd) (x y : List Int) : List Int := open Classical in if h : k.good then star (sysK k h) x y else []
noncomputable def wholeK (k : Kd) (xs : List (List Int)) : List Int := open Classical in if h : k.good then whole (sysK k h) xs else []
theorem starK_eq (h : k.good) : starK k x y = star (sysK k h) x y := dif_pos h
theorem wholeK_eq (h : k.good) : wholeK k xs = whole (sysK k h) xs := dif_pos h
/-- all wholes, the first of all layers -/
noncomputable def wholesK (k : Kd) : List (List Int) → List (List Int)
  | [] => []
  | x :: xs => wholeK k (x :: xs) :: wholesK k xs
theorem wholesK_len : ∀ xs : List (List Int), (wholesK k xs).length = xs.length
  | [] => rfl
  | x :: xs => by rw [wholesK, List.length_cons, List.length_cons, wholesK_len xs]
def AllK (k : Kd) (xs : List (List Int)) : Prop := ∀ x, x ∈ xs → Okk k x
theorem AllK.ok (h : AllK k xs) (hg : k.good) : AllOk (sysK k hg) xs := h
theorem wholeK_ok (hg : k.good) (h : AllK k xs) : Okk k (wholeK k xs) := by
  rw [wholeK_eq hg]
  exact whole_ok (h.ok hg)
theorem wholeK_one (hg : k.good) (h : Okk k x) : wholeK k [x] = x := by
  rw [wholeK_eq hg]
  exact whole_one (S := sysK k hg) h
theorem wholeK_cons (hg : k.good) : wholeK k (x :: xs) = starK k x (wholeK k xs) := by
  rw [wholeK_eq hg, wholeK_eq hg, starK_eq hg]
  rfl
theorem wholesK_ok (hg : k.good) : ∀ xs : List (List Int), AllK k xs → AllK k (wholesK k xs)
  | [], _ => fun _ h => nomatch h
  | x :: xs, h => fun z hz => by
    rcases List.mem_cons.mp hz with e | e
    · rw [e]; exact wholeK_ok hg h
    · exact wholesK_ok hg xs (fun a ha => h a (List.mem_cons_of_mem _ ha)) z e
theorem wholesK_get : ∀ (xs : List (List Int)) (i : Nat), i < xs.length → (wholesK k xs)[i]? = some (wholeK k (xs.drop i))
  | x :: xs, 0, _ => rfl
  | x :: xs, i + 1, h => by
    show (wholesK k xs)[i]? = _
    rw [wholesK_get xs i (by simpa using h)]
    rfl
  | [], _, h => by simp at h
theorem red_gained (hg : k.good) (hx : Okk k x) (h : RedK k r y) : r.foldl (gainK k) x = starK k x y := by
  obtain ⟨_, h⟩ := h
  rw [starK_eq hg]
  exact star_of (S := sysK k hg) hx h
theorem Okk.good_steps (h : RedK k r o) : ∀ s, s ∈ r → s < k.steps := by
  obtain ⟨hg, h⟩ := h
  exact h.wd
theorem RedK.ok (h : RedK k r o) : Okk k o := by
  obtain ⟨hg, h⟩ := h
  exact h.ok
theorem RedK.len (h : RedK k r o) : crK k o = r.length := by
  obtain ⟨hg, h⟩ := h
  exact h.len
theorem RedK.start (hg : k.good) : RedK k [] k.start := ⟨hg, Red.nil⟩
theorem RedK.step (hg : k.good) (ho : Okk k o) (hs : s < k.steps) (hf : fallK k o s = true) (h : RedK k r (byK k o s)) : RedK k (r ++ [s]) o := by
  obtain ⟨_, h⟩ := h
  exact ⟨hg, Red.step (S := sysK k hg) ho hs hf h⟩
theorem crK_down (hg : k.good) (ho : Okk k o) (hs : s < k.steps) (hf : fallK k o s = true) : crK k (byK k o s) + 1 = crK k o := Sys.len_down (S := sysK k hg) ho hs hf
theorem falls_nil (hg : k.good) (ho : Okk k o) (h : (List.range k.steps).filter (fallK k o) = []) : o = k.start := by
  refine no_fall hg (ho.sh hg) fun s hs => ?_
  have := List.filter_eq_nil_iff.mp h s (List.mem_range.mpr hs)
  cases e : fallK k o s with
  | false => rfl
  | true => exact absurd e this
theorem falls_mem (h : s ∈ (List.range k.steps).filter (fallK k o)) : s < k.steps ∧ fallK k o s = true := by
  obtain ⟨h1, h2⟩ := List.mem_filter.mp h
  exact ⟨List.mem_range.mp h1, h2⟩
theorem starK_ok (hg : k.good) (hx : Okk k x) (hy : Okk k y) : Okk k (starK k x y) := by
  rw [starK_eq hg]
  exact star_ok (S := sysK k hg) hx hy
theorem gainK_ok (hx : Okk k x) (hs : s < k.steps) : Okk k (gainK k x s) := by
  unfold gainK
  split
  · exact hx
  · exact hx.by hs
theorem gains_ok : ∀ (r : List Nat) (x : List Int), Okk k x → (∀ s, s ∈ r → s < k.steps) → Okk k (r.foldl (gainK k) x)
  | [], _, h, _ => h
  | s :: r, x, h, hr => gains_ok r _ (gainK_ok h (hr s List.mem_cons_self)) fun t ht => hr t (List.mem_cons_of_mem _ ht)
theorem wholes_rev (hg : k.good) : ∀ xs : List (List Int), wholesK k xs = match xs with
    | [] => []
    | x :: r => starK k x (wholeK k r) :: wholesK k r
  | [] => rfl
  | x :: r => by rw [wholesK, wholeK_cons hg]
end
end CX
namespace CX
section
variable {k : Kd} {o q x y : List Int} {s t : Nat} {r : List Nat} {xs ys : List (List Int)}
/-- a standing that is let in -/
structure StdK (k : Kd) (xs : List (List Int)) : Prop where
  ne : xs ≠ []
  len : xs.length ≤ 8
  all : AllK k xs
  cr : crK k (wholeK k xs) ≤ 60
theorem StdK.mem (hg : k.good) (h : StdK k xs) (hx : x ∈ xs) : crK k x ≤ 60 := by
  have h1 : crK k x ≤ crK k (wholeK k xs) := by
    rw [wholeK_eq hg]
    exact len_whole_mem (S := sysK k hg) (h.all.ok hg) hx
  exact Nat.le_trans h1 h.cr
theorem whole_suffix (hg : k.good) : ∀ (ys xs : List (List Int)), AllK k (ys ++ xs) → crK k (wholeK k xs) ≤ crK k (wholeK k (ys ++ xs))
  | [], _, _ => Nat.le_refl _
  | y :: ys, xs, h => by
    have h1 := whole_suffix hg ys xs fun z hz => h z (List.mem_cons_of_mem _ hz)
    have h2 : crK k (wholeK k (ys ++ xs)) ≤ crK k (wholeK k (y :: (ys ++ xs))) := by
      rw [wholeK_cons hg, starK_eq hg]
      exact len_star_r (S := sysK k hg) (h y List.mem_cons_self) (wholeK_ok hg fun z hz => h z (List.mem_cons_of_mem _ hz))
    exact Nat.le_trans h1 h2
theorem wholesK_cons (hg : k.good) : wholesK k (x :: xs) = wholeK k (x :: xs) :: wholesK k xs := rfl
theorem wholes_last (z : List Int) (ys : List (List Int)) : (wholesK k (ys ++ [z])).reverse.getLast? = some (wholeK k (ys ++ [z])) := by
  cases ys with
  | nil => rfl
  | cons y ys =>
    show (wholesK k (y :: (ys ++ [z]))).reverse.getLast? = _
    rw [wholesK, List.reverse_cons, List.getLast?_append]
    rfl
def headK (k : Kd) (o : List Int) (s : Nat) : Bool := fallK k (oppK k o) s
def fallsK (k : Kd) (o : List Int) : List Nat := (List.range k.steps).filter (fallK k o)
def headsK (k : Kd) (o : List Int) : List Nat := (List.range k.steps).filter (fallK k (oppK k o))
def gL (xs : List (List Int)) (i : Nat) : List Int := xs.getD i []
/-- the deeds at a seam, all deeds -/
def seamK (k : Kd) (xs : List (List Int)) (i : Nat) : List Deed := (fallsK k (gL xs i)).map (fun s => ⟨i, false, s⟩) ++ (headsK k (gL xs (i + 1))).map (fun s => ⟨i, true, s⟩)
def deedsK (k : Kd) (xs : List (List Int)) : List Deed := (List.range (xs.length - 1)).flatMap (seamK k xs)
def behK (k : Kd) (xs : List (List Int)) (d : Deed) : List (List Int) := if d.up = true then xs.set d.seam (byK k (gL xs d.seam) d.step) else xs.set (d.seam + 1) (aheadK k (gL xs (d.seam + 1)) d.step)
def turnK (k : Kd) (xs : List (List Int)) : List (List Int) := xs.reverse.map (oppK k)
theorem filter_le {α : Type} (l : List α) (f : α → Bool) : (l.filter f).length ≤ l.length := List.length_filter_le _ _
theorem seamK_len (k : Kd) (xs : List (List Int)) (i : Nat) : (seamK k xs i).length ≤ 2 * k.steps := by
  unfold seamK
  rw [List.length_append, List.length_map, List.length_map]
  have h1 := filter_le (List.range k.steps) (fallK k (gL xs i))
  have h2 := filter_le (List.range k.steps) (fallK k (oppK k (gL xs (i + 1))))
  rw [List.length_range] at h1 h2
  unfold fallsK headsK
  omega
theorem flat_len (f : Nat → List Deed) (c : Nat) (h : ∀ i, (f i).length ≤ c) : ∀ n : Nat, ((List.range n).flatMap f).length ≤ n * c
  | 0 => Nat.zero_le _
  | n + 1 => by
    rw [List.range_succ, List.flatMap_append, List.length_append, Nat.succ_mul]
    have h1 := flat_len f c h n
    have h2 := h n
    simp only [List.flatMap_cons, List.flatMap_nil, List.append_nil]
    omega
end
end CX
end
section
set_option Elab.async false
set_option linter.all false
set_option maxRecDepth 100000
set_option maxHeartbeats 4000000
set_option autoImplicit false
namespace SL
open PySem PySem.Spec PyProof.Rows L2
section
variable {P : Program} {w : World} {K : PySem.W.Frag} {mg : Str → Option Value} {base : Heap} {C : Addr}

/-! ### least_row_of -/
abbrev preO (k : CX.Kd) (o : List Int) : Prop := k.good ∧ CX.Okk k o ∧ CX.crK k o ≤ 1000
abbrev spLr (C : Addr) : Sp := sp2 (jK C) jLI (jL jN) preO (fun k o r => CX.RedK k r o)
theorem c_least_row_of (T : Tp K mg C) (D : Dfn K mg "least_row_of" s_least_row_of) (c_by_step : Cal P w K mg base 2 "by_step" p_by_step (spBy C)) (c_falls_of : Cal P w K mg base 3 "falls_of" p_falls_of (spFalls C)) : Cal P w K mg base 4 "least_row_of" p_least_row_of (spLr C) := by
  refine cal_mk D sc_least_row_of (fun _ _ _ _ h => len2 h) (fun _ _ _ _ _ _ us hl => match us, hl with | [_, _], _ => rfl) (fun f cdv A outer s H vs Q E hr h => ?_)
  obtain ⟨v1, v2, k, o, rfl, hk, ho, ⟨hg, hok, h1000⟩, q⟩ := h
  have hn := n_le hg
  refine ⟨_, (pss_cons (ps_par (i := 2) (j := 3) (by rfl) sc_least_row_of.nd rfl rfl (by decide) rfl rfl (pa_cons (pe_lst pa_nil) (pa_cons (pe_callTy call_list_of (by rfl) T.list (by decide +kernel) (pa_cons (pv 1) pa_nil)) pa_nil)) (by rfl))
      (pss_cons (ps_set (i := 4) sc_least_row_of.nd rfl (.inl rfl) (pe_cal c_falls_of hr (by rfl) (pa_cons (pv 0) (pa_cons (pv 3) pa_nil))))
      (pss_cons (ps_while PassesOwn.never (pt_cmpR (op_neD hr.units) (pv 4) (pe_lst pa_nil) (nomark _)) (pss_cons (ps_expr (pe_bm PySem.F.plainAttrs_list PySem.F.slot_list_append PySem.F.type_list_append mt_append (pv 2) (pa_cons (pe_ix ix_list (pv 4) pe_int (fun _ _ => rfl)) pa_nil)))
      (pss_cons (ps_set (i := 3) sc_least_row_of.nd rfl (.inl rfl) (pe_cal c_by_step (hr.mono (by decide)) (by rfl) (pa_cons (pv 0) (pa_cons (pv 3) (pa_cons (pe_ix ix_list (pv 4) pe_int (fun _ _ => rfl)) pa_nil)))))
      (pss_one (ps_set (i := 4) sc_least_row_of.nd rfl (.inl rfl) (pe_cal c_falls_of hr (by rfl) (pa_cons (pv 0) (pa_cons (pv 3) pa_nil))))))))
      (pss_one (ps_ret (pe_revL (pv 2))))))), ?_⟩
  refine q_par (P1 := Nu (jL jN) H []) (P2 := fun H1 => Nu jLI H1 o) ev_nil (fun v H1 e1 p1 => ev_listI lisR (ev_var rfl (jLI.mono e1 ho))) fun v w H1 H2 e1 p1 e2 p2 => ?_
  obtain ⟨p, ws, rfl, hp, hpw⟩ := p1
  cases hpw
  obtain ⟨hp0, hp1⟩ := newOf_some hp
  have e12 := e1.trans e2
  have p2' : jLI.r (nw H p H2) w o := jLI.mono (nw_of e1 (by rw [hp1]; exact fun z => nomatch z)) p2
  refine q_set (ev_c2 (x := k) (y := o) (ev_var rfl ((jK C).mono e12 hk)) (ev_var rfl p2.is) ⟨hg, (hok.sh hg).len⟩) fun v4 H3 e3 p3 => ?_
  have p3' : (jL jN).r (nw H p H3) v4 ((List.range k.steps).filter (CX.fallK k o)) := by
    obtain ⟨r, rfl, p3⟩ := p3
    exact (jL jN).mono (nw_of e12 (by rw [e2 _ _ hp1]; exact fun z => nomatch z)) p3
  refine q_while (fun m σ' H' => ∃ (l : List Int) (acc : List Nat) (u w : V), σ' = [some v1, some v2, some (.ref p), some u, some w] ∧ Ex H H' ∧ H' p = some (.lst (acc.map fun (n : Nat) => V.int (n : Int))) ∧ jLI.r (nw H p H') u l ∧ (jL jN).r (nw H p H') w ((List.range k.steps).filter (CX.fallK k l)) ∧ CX.Okk k l ∧ CX.crK k l = m ∧ acc.length + m = CX.crK k o ∧ ∀ r, CX.RedK k r l → CX.RedK k (r ++ acc.reverse) o)
    (CX.crK k o) ⟨o, [], w, v4, rfl, e12.trans e3, e3 _ _ (e2 _ _ hp1), jLI.mono (nw_mono e3) p2', p3', hok, rfl, Nat.zero_add _, fun r h => by rw [List.reverse_nil, List.append_nil]; exact h⟩ (fun m σ' H' hW => ?_)
  obtain ⟨l, acc, u, x, rfl, ee, hpp, hu, hx, hl, hm, ha, hred⟩ := hW
  have hx' := (jL jN).mono nw_ex hx
  refine ⟨_, (et_neN (encN) (ev_var rfl hx')), fun hb H4 e4 => ?_, fun hb H4 e4 => ?_⟩
  · -- a turn
    cases hc : (List.range k.steps).filter (CX.fallK k l) with
    | nil => rw [hc] at hb; exact nomatch hb
    | cons s rest =>
      rw [hc] at hx
      obtain ⟨hs1, hs2⟩ := CX.falls_mem (show s ∈ (List.range k.steps).filter (CX.fallK k l) by rw [hc]; exact List.mem_cons_self)
      have hx4 := (jL jN).mono (nw_mono e4) hx
      have hu4 := jLI.mono (nw_mono e4) hu
      have first : ∀ (σ : L2.St) (H5 : Hp), σ[4]? = some (some x) → (jL jN).r H5 x (s :: rest) → Ev (tOp (rIxL K) (tVar 4) (tC (.int 0))) σ H5 (Is jN s) := fun σ H5 h4 hr5 => ev_ixL (R := jN) (xs := s :: rest) (j := 0) (ev_var h4 hr5) ev_c rfl rfl
      have hdown := CX.crK_down hg hl hs1 hs2
      refine ⟨_, fun σ2 H2 h => h, ?_⟩
      refine q_app (e4 _ _ hpp) (ev_v rfl) (first _ H4 rfl ((jL jN).mono nw_ex hx4)) (by rw [List.length_map]; omega) fun v5 H5 e5 p5 => ?_
      have e5p := e5 _ _ (e4 _ _ hpp)
      have hx5 := (jL jN).mono nw_upd ((jL jN).mono (nw_mono e5) hx4) (H' := nw H p (upd H5 p (.lst ((acc.map fun (n : Nat) => V.int (n : Int)) ++ [v5]))))
      have hu5 := jLI.mono nw_upd (jLI.mono (nw_mono e5) hu4) (H' := nw H p (upd H5 p (.lst ((acc.map fun (n : Nat) => V.int (n : Int)) ++ [v5]))))
      have ee5 : Ex H (upd H5 p (.lst ((acc.map fun (n : Nat) => V.int (n : Int)) ++ [v5]))) := ex_upd ((ee.trans e4).trans e5) hp0
      have hpp5 : (upd H5 p (.lst ((acc.map fun (n : Nat) => V.int (n : Int)) ++ [v5]))) p = some (.lst ((acc.map fun (n : Nat) => V.int (n : Int)) ++ [v5])) := upd_same
      generalize upd H5 p (.lst ((acc.map fun (n : Nat) => V.int (n : Int)) ++ [v5])) = H6 at hx5 hu5 ee5 hpp5 ⊢
      refine q_set (nu1 (ev_c3 (x := k) (y := l) (z := s) (ev_var rfl ((jK C).mono ee5 hk)) (ev_var rfl (jLI.mono nw_ex hu5)) (first _ H6 rfl ((jL jN).mono nw_ex hx5)) ⟨hg, (hl.sh hg).len, hs1⟩)) fun v7 H7 e7 p7 => ?_
      have hl7 : CX.Okk k (CX.byK k l s) := hl.by hs1
      refine s_set (nu1 (ev_c2 (x := k) (y := CX.byK k l s) (ev_var rfl ((jK C).mono (ee5.trans e7) hk)) (ev_var rfl p7.is) ⟨hg, (hl7.sh hg).len⟩)) fun v8 H8 e8 p8 => ⟨CX.crK k (CX.byK k l s), by omega, CX.byK k l s, acc ++ [s], v7, v8, rfl, (ee5.trans e7).trans e8, ?_, ?_, ?_, hl7, rfl, by rw [List.length_append]; show acc.length + 1 + _ = _; omega, fun r hrr => ?_⟩
      · rw [e8 _ _ (e7 _ _ hpp5), List.map_append]
        cases p5
        rfl
      · exact jLI.mono (nw_mono e8) (jLI.mono (nw_of ee5 (by rw [hpp5]; exact fun z => nomatch z)) p7)
      · exact (jL jN).mono (nw_of (ee5.trans e7) (by rw [e7 _ _ hpp5]; exact fun z => nomatch z)) p8
      · have h1 := hred _ (CX.RedK.step hg hl hs1 hs2 hrr)
        rw [List.reverse_append]
        rw [List.append_assoc] at h1
        exact h1
  · -- the end
    have hnil : (List.range k.steps).filter (CX.fallK k l) = [] := by
      cases hc : (List.range k.steps).filter (CX.fallK k l) with
      | nil => rfl
      | cons a b => rw [hc] at hb; exact nomatch hb
    have hst := CX.falls_nil hg hl hnil
    subst hst
    have hfin := hred _ (CX.RedK.start hg)
    rw [List.nil_append] at hfin
    have hp4 : (jL jN).r H4 (.ref p) acc := ⟨p, _, rfl, e4 _ _ hpp, paired_ofNat acc⟩
    exact s_ret (ev_revN (ev_var rfl hp4)) fun v H5 e5 p5 => q v H5 _ ((ee.trans e4).trans e5) hfin (p5.back (ee.trans e4))
/-! ### gain, gained_all, greedy_of -/
abbrev spGain (C : Addr) : Sp := sp3 (jK C) jLI jN jLI preS (fun k o s r => r = CX.gainK k o s)
theorem c_gain (T : Tp K mg C) (D : Dfn K mg "gain" s_gain) (c_is_crossed : Cal P w K mg base 2 "is_crossed" p_is_crossed (spCrossed C)) (c_by_step : Cal P w K mg base 2 "by_step" p_by_step (spBy C)) : Cal P w K mg base 3 "gain" p_gain (spGain C) := by
  refine cal_mk D sc_gain (fun _ _ _ _ h => len3 h) (fun _ _ _ _ _ _ us hl => match us, hl with | [_, _, _], _ => rfl) (fun f cdv A outer s H vs Q E hr h => ?_)
  obtain ⟨v1, v2, v3, k, o, st, rfl, hk, ho, hs, hpre, q⟩ := h
  have hr' := hr
  refine ⟨_, (pss_one (ps_ret (pe_ifExp (pt_val (pe_cal c_is_crossed hr' (by rfl) (pa_cons (pv 0) (pa_cons (pv 1) (pa_cons (pv 2) pa_nil))))) (pe_callTy call_list_of (by rfl) T.list (by decide +kernel) (pa_cons (pv 1) pa_nil)) (pe_cal c_by_step hr' (by rfl) (pa_cons (pv 0) (pa_cons (pv 1) (pa_cons (pv 2) pa_nil))))))), ?_⟩
  refine s_ret (P := Nu jLI H (CX.gainK k o st)) (ev_if (et_B (nuB (ev_c3 (ev_var rfl hk) (ev_var rfl ho) (ev_var rfl hs) hpre))) (fun hf => ?_) (fun hf => ?_)) fun v H2 e2 p => q v H2 _ e2 rfl p
  · rw [show CX.gainK k o st = o from if_pos hf]
    exact ev_listI lisR (ev_var rfl ho)
  · rw [show CX.gainK k o st = CX.byK k o st from if_neg (by rw [hf]; exact Bool.false_ne_true)]
    exact nu1 (ev_c3 (ev_var rfl hk) (ev_var rfl ho) (ev_var rfl hs) hpre)
abbrev spGa (C : Addr) : Sp := sp3 (jK C) jLI (jL jN) jLI (fun k o r => k.good ∧ CX.Okk k o ∧ ∀ s, s ∈ r → s < k.steps) (fun k o r z => z = r.foldl (CX.gainK k) o)
theorem foldl_snoc {α β : Type} (f : α → β → α) (a : α) {r : List β} {i : Nat} {x : β} (h : r[i]? = some x) : (r.take (i + 1)).foldl f a = f ((r.take i).foldl f a) x := by
  rw [List.take_add_one, h, List.foldl_append]
  rfl
theorem c_gained_all (T : Tp K mg C) (D : Dfn K mg "gained_all" s_gained_all) (c_gain : Cal P w K mg base 3 "gain" p_gain (spGain C)) : Cal P w K mg base 4 "gained_all" p_gained_all (spGa C) := by
  refine cal_mk D sc_gained_all (fun _ _ _ _ h => len3 h) (fun _ _ _ _ _ _ us hl => match us, hl with | [_, _, _], _ => rfl) (fun f cdv A outer s H vs Q E hr h => ?_)
  obtain ⟨v1, v2, v3, k, o, row, rfl, hk, ho, hrow, ⟨hg, hok, hst⟩, q⟩ := h
  have hr' := hr
  refine ⟨_, (pss_cons (ps_set (i := 3) sc_gained_all.nd rfl (.inl rfl) (pe_callTy call_list_of (by rfl) T.list (by decide +kernel) (pa_cons (pv 1) pa_nil)))
      (pss_cons (ps_for PassesOwn.never rfl (pi_list (pv 2)) (pg_name (i := 4) sc_gained_all.nd rfl (.inl rfl)) (pss_one (ps_set (i := 3) sc_gained_all.nd rfl (.inl rfl) (pe_cal c_gain hr' (by rfl) (pa_cons (pv 0) (pa_cons (pv 3) (pa_cons (pv 4) pa_nil)))))))
      (pss_one (ps_ret (pv 3))))), ?_⟩
  refine q_set (ev_listI lisR (ev_var rfl ho)) fun v H1 e1 p1 => ?_
  refine q_forX (R := jN) (xs := row) (ev_var rfl ((jL jN).mono e1 hrow)) (fun i σ' H' => ∃ (u : V) (y : Option V), σ' = [some v1, some v2, some v3, some u, y] ∧ Nu jLI H ((row.take i).foldl (CX.gainK k) o) u H') (fun H2 e2 => ⟨v, none, rfl, jLI.mono (newOf_mono e2) p1⟩) (fun i x w σ' H' N e2 rx hx pv hN => ?_) (fun σ' H' e2 pv => ?_)
  · obtain ⟨u, y, rfl, hu⟩ := pv
    have okp : CX.Okk k ((row.take i).foldl (CX.gainK k) o) := CX.gains_ok _ _ hok fun s hs => hst s (List.mem_of_mem_take hs)
    refine s_set (nu1 (ev_c3 (x := k) (z := x) (ev_var rfl ((jK C).mono (e1.trans e2) hk)) (ev_var rfl hu.is) (ev_var rfl rx) ⟨hg, (okp.sh hg).len, hst x (List.mem_of_getElem? hx)⟩)) fun v5 H5 e5 p5 => hN _ _ e5 ⟨v5, some w, rfl, ?_⟩
    rw [foldl_snoc _ _ hx]
    exact p5.back (e1.trans e2)
  · obtain ⟨u, y, rfl, hu⟩ := pv
    rw [List.take_length] at hu
    exact s_ret (ev_var (P := Nu jLI H (row.foldl (CX.gainK k) o)) rfl hu) fun v5 H5 e5 p5 => q v5 H5 _ ((e1.trans e2).trans e5) rfl p5
abbrev spGr (C : Addr) : Sp := sp3 (jK C) jLI jLI jLI (fun k x y => k.good ∧ CX.Okk k x ∧ CX.Okk k y ∧ CX.crK k y ≤ 1000) (fun k x y r => r = CX.starK k x y)
theorem c_greedy_of (T : Tp K mg C) (D : Dfn K mg "greedy_of" s_greedy_of) (c_least_row_of : Cal P w K mg base 4 "least_row_of" p_least_row_of (spLr C)) (c_gained_all : Cal P w K mg base 4 "gained_all" p_gained_all (spGa C)) : Cal P w K mg base 5 "greedy_of" p_greedy_of (spGr C) := by
  refine cal_mk D sc_greedy_of (fun _ _ _ _ h => len3 h) (fun _ _ _ _ _ _ us hl => match us, hl with | [_, _, _], _ => rfl) (fun f cdv A outer s H vs Q E hr h => ?_)
  obtain ⟨v1, v2, v3, k, x, y, rfl, hk, hx, hy, ⟨hg, okx, oky, h1000⟩, q⟩ := h
  have hr' := hr
  refine ⟨_, (pss_one (ps_ret (pe_cal c_gained_all hr' (by rfl) (pa_cons (pv 0) (pa_cons (pv 1) (pa_cons (pe_cal c_least_row_of hr' (by rfl) (pa_cons (pv 0) (pa_cons (pv 2) pa_nil))) pa_nil)))))), ?_⟩
  refine s_ret (ev_c3E (x := k) (y := x) (ev_var rfl hk) (ev_var rfl hx) (ev_c2 (ev_var rfl hk) (ev_var rfl hy) ⟨hg, oky, h1000⟩) (fun z hz => ⟨hg, okx, CX.Okk.good_steps hz⟩)) fun v H2 e2 p => ?_
  obtain ⟨r, ⟨z, hz, e⟩, p⟩ := p
  exact q v H2 r e2 (e.trans (CX.red_gained hg okx hz)) p
end
end SL
end
section
set_option Elab.async false
set_option linter.all false
set_option maxRecDepth 100000
set_option maxHeartbeats 4000000
set_option autoImplicit false
/-! Lists whose items stand since some heap; lists that are changed by place; deeds. -/
namespace SL
open PySem PySem.Spec PyProof.Rows L2
/-- all but p -/
def wo (p : Addr) (H : Hp) : Hp := fun a => if a = p then none else H a
theorem wo_some {p a : Addr} {H : Hp} {o : HO} (h : wo p H a = some o) : a ≠ p ∧ H a = some o := by
  unfold wo at h
  by_cases c : a = p
  · rw [if_pos c] at h; cases h
  · rw [if_neg c] at h; exact ⟨c, h⟩
theorem wo_at {p a : Addr} {H : Hp} (c : a ≠ p) : wo p H a = H a := if_neg c
theorem wo_ex {p : Addr} {H : Hp} : Ex (wo p H) H := fun _ _ h => (wo_some h).2
theorem wo_mono {p : Addr} {H H' : Hp} (e : Ex H H') : Ex (wo p H) (wo p H') := fun a o h => by
  obtain ⟨h1, h2⟩ := wo_some h
  rw [wo_at h1]; exact e _ _ h2
theorem wo_upd {p : Addr} {H : Hp} {o : HO} : Ex (wo p H) (wo p (upd H p o)) := fun a u h => by
  obtain ⟨h1, h2⟩ := wo_some h
  rw [wo_at h1, upd_ne h1]; exact h2
theorem wo_old {p : Addr} {H0 H : Hp} (e : Ex H0 H) (h : H0 p = none) : Ex H0 (wo p H) := fun a o ha => by
  rw [wo_at (fun c => by rw [c, h] at ha; cases ha)]
  exact e _ _ ha
theorem wo_new {p : Addr} {H H' : Hp} (h : H p ≠ none) : Ex (newOf H H') (wo p H') := fun a o ha => by
  obtain ⟨h1, h2⟩ := newOf_some ha
  rw [wo_at (fun c => h (by rw [← c]; exact h1))]
  exact h2
theorem wo_nw {p : Addr} {H0 H : Hp} : Ex (nw H0 p H) (wo p H) := fun a o ha => by
  obtain ⟨h1, h2, h3⟩ := nw_some ha
  rw [wo_at h1]; exact h3
/-- a list of what F tells -/
def LF {α : Type} (F : V → α → Prop) (xs : List α) : V → Hp → Prop := fun v H => ∃ p ws, v = .ref p ∧ H p = some (.lst ws) ∧ Paired F ws xs
instance {α : Type} {F : V → α → Prop} {xs : List α} : Stab (LF F xs) := ⟨fun e ⟨p, ws, h1, h2, h3⟩ => ⟨p, ws, h1, e _ _ h2, h3⟩⟩
/-- .. which lies at a place of which A -/
def LA {α : Type} (A : Addr → Prop) (F : V → α → Prop) (xs : List α) : V → Hp → Prop := fun v H => ∃ p ws, v = .ref p ∧ A p ∧ H p = some (.lst ws) ∧ Paired F ws xs
instance {α : Type} {A : Addr → Prop} {F : V → α → Prop} {xs : List α} : Stab (LA A F xs) := ⟨fun e ⟨p, ws, h1, h0, h2, h3⟩ => ⟨p, ws, h1, h0, e _ _ h2, h3⟩⟩
theorem LF.la {α : Type} {F : V → α → Prop} {xs : List α} {v : V} {H : Hp} (h : LF F xs v H) : LA (fun _ => True) F xs v H := by
  obtain ⟨p, ws, h1, h2, h3⟩ := h
  exact ⟨p, ws, h1, trivial, h2, h3⟩
theorem LA.lf {α : Type} {A : Addr → Prop} {F : V → α → Prop} {xs : List α} {v : V} {H : Hp} (h : LA A F xs v H) : LF F xs v H := by
  obtain ⟨p, ws, h1, _, h2, h3⟩ := h
  exact ⟨p, ws, h1, h2, h3⟩
theorem LF.of {α : Type} {R : RP α} {H : Hp} {v : V} {xs : List α} (h : (jL R).r H v xs) : LF (R.r H) xs v H := h
theorem LF.is {α : Type} {R : RP α} {H0 H : Hp} {v : V} {xs : List α} (e : Ex H0 H) (h : LF (R.r H0) xs v H) : (jL R).r H v xs := by
  obtain ⟨p, ws, h1, h2, h3⟩ := h
  exact ⟨p, ws, h1, h2, paired_mono (fun _ _ q => R.mono e q) h3⟩
/-! ### rules within a comprehension: the written part by its own name -/
def rLis (K : PySem.W.Frag) : List V → Hp → VK → Prop := fun xs H Q => ∃ p ys, xs = [.ref p] ∧ (SqL K H p ys ∨ SqT K H p ys) ∧ ∀ l, H l = none → Q (.ref l) (upd H l (.lst ys))
def rLen' (K : PySem.W.Frag) : List V → Hp → VK → Prop := fun xs H Q => ∃ p ys, xs = [.ref p] ∧ (SqL K H p ys ∨ SqT K H p ys) ∧ Q (.int ys.length) H
section
variable {X : Cx} {K : PySem.W.Frag}
theorem call_lisK (h : X.K = K) : CallR X (.type "list") (rLis K) := by subst h; exact call_list_of
theorem call_lenK (h : X.K = K) : CallR X (.builtin "len") (rLen' K) := by subst h; exact call_len_seq
theorem ix_listK (h : X.K = K) : IxR X (rIxL K) := by subst h; exact ix_list
theorem pg_tupK {elts : List Expr} {kk n : Nat} {pos : Pos} {t : TGs} (h : X.K = K) (hc : X.calm = true) (ht : PGs X elts t) (hn : (assignEach elts X.env).length = n := by rfl) (hst : (assignEach elts X.env).findIdx? (·.1) = none := by rfl) : PG X (.Tuple elts kk pos) (gTup K n t) := by subst h; exact pg_tup hc ht hn hst
end
/-! ### deeds -/
def sdS : Bool → Str
  | true => "upper"
  | false => "lower"
def jD : RP CX.Deed := ⟨fun H v d => ∃ a, v = .ref a ∧ H a = some (.tup [.int (d.seam : Int), .str (sdS d.up), .int (d.step : Int)]), fun e ⟨a, h1, h2⟩ => ⟨a, h1, e _ _ h2⟩⟩
theorem sd_up (b : Bool) : decide (V.str (sdS b) = V.str "upper") = b := by cases b <;> decide +kernel
/-- the items of a list of int lists lie beside it -/
theorem items_beside {G : Hp} {p : Addr} {vs : List V} (hp : G p = some (.lst vs)) : ∀ {ws : List V} {xs : List (List Int)}, (∀ v, v ∈ ws → v ∈ vs) → Paired (jLI.r G) ws xs → Paired (jLI.r (wo p G)) ws xs
  | _, _, _, .nil => .nil
  | v :: ws, x :: xs, hm, .cons r t => by
    refine .cons ?_ (items_beside hp (fun u hu => hm u (List.mem_cons_of_mem _ hu)) t)
    obtain ⟨a, ev, ha⟩ := r
    refine ⟨a, ev, ?_⟩
    rw [wo_at]
    · exact ha
    · intro c
      rw [c, hp] at ha
      have e : vs = x.map V.int := by
        injection ha with h1
        injection h1
      have hv := hm v List.mem_cons_self
      rw [e] at hv
      obtain ⟨z, _, hz⟩ := List.mem_map.mp hv
      rw [ev] at hz
      cases hz
section
variable {K : PySem.W.Frag} {σ : L2.St} {H H' H0 : Hp} {ta tb tc td te tl : TE} {tt tu : TT} {x y z v : V} {P P' P1 P2 P3 : V → Hp → Prop} {D : Ends} {ts tw tz : TS} {i j : Nat} {C : Addr} {k : CX.Kd} {α β γ δ ε : Type} {R : RP α} {S : RP β} {vs : List Nat} {F : V → α → Prop}
theorem ev_rev2F {xs : List α} (h : Ev te σ H (LF F xs)) (hne : xs ≠ []) : Ev (tRev2 K te) σ H (LA (fun a => H a = none) F xs.dropLast.reverse) := fun H1 e1 Q q =>
  h H1 e1 _ fun v H2 e2 ⟨a, ws, ev, ha, hp⟩ => by
    subst ev
    have hl := paired_len hp
    refine ⟨a, ws, rfl, .inl (.inl ha), fun z => hne (List.eq_nil_of_length_eq_zero (by rw [← hl, z]; rfl)), fun p hn => q _ _ (e2.trans (Evl.Ex.new hn)) ⟨p, _, rfl, fresh0 (e1.trans e2) hn, upd_same, ?_⟩⟩
    rw [List.dropLast_eq_take, List.dropLast_eq_take, hl]
    exact paired_rev (paired_take _ hp)
theorem ev_revF {xs : List α} (h : Ev te σ H (LF F xs)) : Ev (tRevL K te) σ H (LA (fun a => H a = none) F xs.reverse) := fun H1 e1 Q q =>
  h H1 e1 _ fun v H2 e2 ⟨a, ws, ev, ha, hp⟩ => by
    subst ev
    exact ⟨a, ws, rfl, .inl (.inl ha), fun p hn => q _ _ (e2.trans (Evl.Ex.new hn)) ⟨p, _, rfl, fresh0 (e1.trans e2) hn, upd_same, paired_rev hp⟩⟩
theorem s_forF {A : Addr → Prop} {xs : List α} (h : Ev tl σ H (LA A F xs)) (Pv : Addr → List V → Nat → L2.St → Hp → Prop) (h0 : ∀ a ws H1, Ex H H1 → A a → H1 a = some (.lst ws) → Pv a ws 0 σ H1)
    (hl : ∀ a ws i σ' H', Pv a ws i σ' H' → H' a = some (.lst ws))
    (hs : ∀ a ws (i : Nat) (x : α) (v : V), F v x → xs[i]? = some x → ∀ σ' H', Pv a ws i σ' H' → ts { D with nx := Pv a ws (i + 1), ct := Pv a ws (i + 1), bk := D.nx } (σ'.set j (some v)) H')
    (hd : ∀ a ws σ' H', Pv a ws xs.length σ' H' → D.nx σ' H') : tFor (iList K tl) (gName j) ts D σ H :=
  h H (Evl.Ex.refl H) _ fun v H1 e ⟨a, ws, ev, hA, ha, hp⟩ => by
    subst ev
    have hlen := paired_len hp
    refine ⟨a, rfl, ⟨ws, .inl (.inl ha)⟩, for_list (Pv a ws) (h0 a ws H1 e hA ha) (fun i σ' H' hi p => .inl (.inl (hl a ws i σ' H' p))) (fun i w σ' H' hi p => ?_) (fun σ' H' p => hd a ws σ' H' (by rw [← hlen]; exact p))⟩
    obtain ⟨x, hx, rx⟩ := paired_get hp hi
    exact hs a ws i x w rx hx σ' H' p
theorem q_forF {A : Addr → Prop} {xs : List α} (h : Ev tl σ H (LA A F xs)) (Pv : Addr → List V → Nat → L2.St → Hp → Prop) (h0 : ∀ a ws H1, Ex H H1 → A a → H1 a = some (.lst ws) → Pv a ws 0 σ H1)
    (hl : ∀ a ws i σ' H', Pv a ws i σ' H' → H' a = some (.lst ws))
    (hs : ∀ a ws (i : Nat) (x : α) (v : V), F v x → xs[i]? = some x → ∀ σ' H', Pv a ws i σ' H' → ts { D with nx := Pv a ws (i + 1), ct := Pv a ws (i + 1), bk := tz D } (σ'.set j (some v)) H')
    (hd : ∀ a ws σ' H', Pv a ws xs.length σ' H' → tz D σ' H') : tSeq (tFor (iList K tl) (gName j) ts) tz D σ H := s_forF (D := { D with nx := tz D }) h Pv h0 hl hs hd
/-- for i in range(n), the body may change what it owns -/
theorem s_forR {n : Nat} (h : Ev ta σ H (Eqv (.int n))) (hz : n ≤ 100000) (Pv : Nat → L2.St → Hp → Prop) (h0 : ∀ H1, Ex H H1 → Pv 0 σ H1)
    (hs : ∀ (i : Nat) σ' H', i < n → Pv i σ' H' → ts { D with nx := Pv (i + 1), ct := Pv (i + 1), bk := D.nx } (σ'.set j (some (.int (i : Int)))) H') (hd : ∀ σ' H', Pv n σ' H' → D.nx σ' H') : tFor (iRng1 (tCons ta tNil)) (gName j) ts D σ H :=
  h H (Evl.Ex.refl H) _ fun v H1 e p => by
    cases p
    refine ⟨(n : Int), rfl, by omega, by omega, for_range (lo := 0) (n := (n : Int).toNat) Pv (h0 H1 e) (fun i σ' H' hi p => ?_) (by rw [show (n : Int).toNat = n by omega]; exact hd)⟩
    have e0 : (0 : Int) + (i : Int) = (i : Int) := Int.zero_add _
    show ts { D with nx := Pv (i + 1), ct := Pv (i + 1), bk := D.nx } (σ'.set j (some (.int ((0 : Int) + (i : Int))))) H'
    rw [e0]
    exact hs i σ' H' (by omega) p
theorem q_forR {n : Nat} (h : Ev ta σ H (Eqv (.int n))) (hz : n ≤ 100000) (Pv : Nat → L2.St → Hp → Prop) (h0 : ∀ H1, Ex H H1 → Pv 0 σ H1)
    (hs : ∀ (i : Nat) σ' H', i < n → Pv i σ' H' → ts { D with nx := Pv (i + 1), ct := Pv (i + 1), bk := tz D } (σ'.set j (some (.int (i : Int)))) H') (hd : ∀ σ' H', Pv n σ' H' → tz D σ' H') : tSeq (tFor (iRng1 (tCons ta tNil)) (gName j) ts) tz D σ H := s_forR (D := { D with nx := tz D }) h hz Pv h0 hs hd
/-- xs[j] = e, of a list of anything -/
theorem s_setA {l : Addr} {xs : List V} {j : Nat} {i : Int} (hl : H l = some (.lst xs)) (h : Ev te σ H P) (ho : Ev ta σ H (Eqv (.ref l))) (hi : Ev tb σ H (Eqv (.int i))) (ei : i = (j : Int)) (hj : j < xs.length) [s : Stab P]
    (k : ∀ v H1, Ex H H1 → P v H1 → D.nx σ (upd H1 l (.lst (xs.set j v)))) : tAsg te (gSub ta tb rSetL) D σ H := h H (Evl.Ex.refl H) _ fun v H1 e1 p => ho H1 e1 _ fun o H2 e2 p2 => hi H2 (e1.trans e2) _ fun w H3 e3 p3 => by
  cases p2; cases p3
  subst ei
  exact ⟨l, _, (j : Int), j, rfl, rfl, ((e1.trans e2).trans e3) l _ hl, Evl.ixN_nat hj, k v H3 ((e1.trans e2).trans e3) (s.st (e2.trans e3) p)⟩
/-- xs + ys, all new -/
theorem ev_cat {xs ys : List α} (e0 : Ex H0 H) (h1 : Ev ta σ H (Nu (jL R) H0 xs)) (h2 : Ev tb σ H (Nu (jL R) H0 ys)) (hz : xs.length + ys.length ≤ 100000) : Ev (tOp rCat ta tb) σ H (Nu (jL R) H0 (xs ++ ys)) :=
  ev_opG h1 h2 fun u w H1 e ⟨a, ws, ea, ha, hp⟩ ⟨b, us, eb, hb, hq⟩ Q q => by
    subst ea eb
    refine ⟨a, b, ws, us, rfl, rfl, newOf_ex _ _ ha, newOf_ex _ _ hb, Evl.sz_of (by rw [paired_len hp, paired_len hq]; exact hz), fun p hn => q _ _ (Evl.Ex.new hn) ⟨p, _, rfl, newOf_new (e0.trans e) hn, ?_⟩⟩
    exact paired_app (paired_mono (fun _ _ z => R.mono (newOf_upd hn) z) hp) (paired_mono (fun _ _ z => R.mono (newOf_upd hn) z) hq)
/-- (i, text, j) -/
theorem ev_deed {d : CX.Deed} (h1 : Ev ta σ H (Eqv (.int d.seam))) (h2 : Ev tb σ H (Eqv (.str (sdS d.up)))) (h3 : Ev tc σ H (Eqv (.int d.step))) : Ev (tTup (tCons ta (tCons tb (tCons tc tNil)))) σ H (Nu jD H d) :=
  ev_tup (ea_3 h1 h2 h3) (fun vs H1 ⟨v, w, u, e, _⟩ => by rw [e]; show 3 ≤ 100000; decide) fun vs H1 p e ⟨v, w, u, ev, p1, p2, p3⟩ hn => by
    subst ev
    cases p1; cases p2; cases p3
    exact ⟨p, rfl, newOf_new e hn⟩
/-- i, s, j = a deed -/
theorem s_deed {d : CX.Deed} {j1 j2 j3 : Nat} (h : Ev te σ H (Is jD d)) (k : ∀ H1, Ex H H1 → D.nx (((σ.set j1 (some (.int d.seam))).set j2 (some (.str (sdS d.up)))).set j3 (some (.int d.step))) H1) :
    tAsg te (gTup K 3 (gCons (gName j1) (gCons (gName j2) (gCons (gName j3) gNil)))) D σ H := h H (Evl.Ex.refl H) _ fun v H1 e ⟨a, ev, ha⟩ => by
  subst ev
  exact ⟨a, _, rfl, .inl (.inl ha), rfl, _, _, rfl, _, _, rfl, _, _, rfl, rfl, k H1 e⟩
theorem q_deed {d : CX.Deed} {j1 j2 j3 : Nat} (h : Ev te σ H (Is jD d)) (k : ∀ H1, Ex H H1 → tz D (((σ.set j1 (some (.int d.seam))).set j2 (some (.str (sdS d.up)))).set j3 (some (.int d.step))) H1) :
    tSeq (tAsg te (gTup K 3 (gCons (gName j1) (gCons (gName j2) (gCons (gName j3) gNil))))) tz D σ H := s_deed (D := { D with nx := tz D }) h k
/-- a call that answers None -/
theorem q_call {t : TA} {sp : Sp} {E : XK} {PA : List V → Hp → Prop} (h : EvA t σ H PA) (hs : ∀ vs H1, Ex H H1 → PA vs H1 → Run sp vs H1 (fun _ _ => True)) (k : ∀ H1, Ex H H1 → tz D σ H1) : tSeq (tDrop (tCall sp [] E t)) tz D σ H :=
  q_drop (P := fun _ _ => True) (ev_call h hs) fun _ H1 e _ => k H1 e
end
end SL
end
section
set_option Elab.async false
set_option linter.all false
set_option maxRecDepth 100000
set_option maxHeartbeats 4000000
set_option autoImplicit false
namespace SL
open PySem PySem.Spec PyProof.Rows L2
section
variable {P : Program} {w : World} {K : PySem.W.Frag} {mg : Str → Option Value} {base : Heap} {C : Addr}

abbrev jLL : RP (List (List Int)) := jL jLI
theorem gL_some {xs : List (List Int)} {i : Nat} (h : i < xs.length) : xs[i]? = some (CX.gL xs i) := by
  unfold CX.gL
  rw [List.getD_eq_getElem?_getD, List.getElem?_eq_getElem h]
  rfl
theorem nuLL {H0 H : Hp} {xs : List (List Int)} {v : V} (h : Nu jLL H0 xs v H) : ∃ p vs, v = .ref p ∧ H0 p = none ∧ H p = some (.lst vs) ∧ vs.length = xs.length ∧ Paired (jLI.r (nw H0 p H)) vs xs := by
  obtain ⟨p, vs, e, h1, h2⟩ := h
  obtain ⟨h3, h4⟩ := newOf_some h1
  refine ⟨p, vs, e, h3, h4, paired_len h2, ?_⟩
  have h5 := items_beside (G := newOf H0 H) h1 (fun v hv => hv) h2
  refine paired_mono (fun _ _ q => jLI.mono (fun a o ha => ?_) q) h5
  obtain ⟨h6, h7⟩ := wo_some ha
  obtain ⟨h8, h9⟩ := newOf_some h7
  rw [nw_at h8 h6]; exact h9
/-- [list(x) for x in xs] -/
theorem ev_copy {σ : L2.St} {H : Hp} {tl : TE} {j : Nat} {vs : List Nat} {xs : List (List Int)} (h : Ev tl σ H (Is jLL xs)) (hz : xs.length ≤ 40000) (hw : ∀ x, wipe ((wipe σ vs).set j (some x)) vs = wipe σ vs) (hj : ∀ x : V, ((wipe σ vs).set j (some x))[j]? = some (some x)) :
    Ev (tLc (iList K tl) (gName j) tYes (tCB (rLis K) (tCons (tVar j) tNil)) vs) σ H (Nu jLL H xs) := by
  have e := ev_lcA (K := K) (S := jLI) (fun x => x) h hz hw (fun i x v H3 e3 hx rx => ev_listI lisR (ev_var (i := j) (hj v) rx)) (te := tCB (rLis K) (tCons (tVar j) tNil))
  rw [List.map_id'] at e
  exact e
/-! ### wholes_of -/
abbrev preX (k : CX.Kd) (xs : List (List Int)) : Prop := k.good ∧ CX.StdK k xs
abbrev spWs (C : Addr) : Sp := sp2 (jK C) jLL jLL preX (fun k xs r => r = CX.wholesK k xs)
theorem c_wholes_of (T : Tp K mg C) (D : Dfn K mg "wholes_of" s_wholes_of) (c_greedy_of : Cal P w K mg base 5 "greedy_of" p_greedy_of (spGr C)) : Cal P w K mg base 6 "wholes_of" p_wholes_of (spWs C) := by
  refine cal_mk D sc_wholes_of (fun _ _ _ _ h => len2 h) (fun _ _ _ _ _ _ us hl => match us, hl with | [_, _], _ => rfl) (fun f cdv A outer s H vs Q E hr h => ?_)
  obtain ⟨v1, v2, k, xs, rfl, hk, hx, ⟨hg, hs⟩, q⟩ := h
  have hr' := hr
  have hlen := hs.len
  have hall := hs.all
  have hcr := hs.cr
  obtain ⟨ys, z, rfl⟩ : ∃ ys z, xs = ys ++ [z] := ⟨xs.dropLast, xs.getLast hs.ne, (List.dropLast_concat_getLast hs.ne).symm⟩
  rw [List.length_append] at hlen
  have hz1 : CX.Okk k z := hall z (by simp)
  refine ⟨_, (pss_cons (ps_set (i := 2) sc_wholes_of.nd rfl (.inl rfl) (pe_lst (pa_cons (pe_ix ix_list (pv 1) (pe_un un_neg pe_int) (fun _ _ => rfl)) pa_nil)))
      (pss_cons (ps_for PassesOwn.never rfl (pi_list (pe_rev2 (pv 1))) (pg_name (i := 3) sc_wholes_of.nd rfl (.inl rfl)) (pss_one (ps_expr (pe_bm PySem.F.plainAttrs_list PySem.F.slot_list_append PySem.F.type_list_append mt_append (pv 2) (pa_cons (pe_cal c_greedy_of hr' (by rfl) (pa_cons (pv 0) (pa_cons (pv 3) (pa_cons (pe_ix ix_list (pv 2) (pe_un un_neg pe_int) (fun _ _ => rfl)) pa_nil)))) pa_nil)))))
      (pss_one (ps_ret (pe_lc (own := [("order", 3)]) (by rfl) sc_wholes_of.nd (pi_list (pe_revL (pv 2))) (blkOk_by (own := [("order", 3)]) (N := N_wholes_of) (sc := defScope s_wholes_of) (by decide +kernel)) (fun _ _ _ _ _ => (pg_name (i := 3) sc_wholes_of.nd rfl (.inl rfl))) (fun _ _ _ _ _ => pts_nil) (fun _ _ _ _ _ => (pe_callTy (call_lisK (K := K) rfl) (by rfl) T.list (by decide +kernel) (pa_cons (pv 3) pa_nil)))))))), ?_⟩
  refine q_set (P := fun v H1 => ∃ p u, v = .ref p ∧ H p = none ∧ H1 p = some (.lst [u]) ∧ jLI.r H u z) (fun H1 e1 Q q => ?_) fun v H1 e1 p1 => ?_
  · obtain ⟨a, ws, rfl, ha, hp⟩ := id hx
    obtain ⟨u, hu, ru⟩ := paired_last hp (x := z) (by simp)
    refine ⟨_, rfl, _, rfl, a, ws, -1, u, rfl, rfl, .inl (.inl (e1 _ _ ha)), atI_m1 hu, Evl.sz_of (show 1 ≤ 100000 by decide), fun p hn => q _ _ (Evl.Ex.new hn) ⟨p, u, rfl, fresh0 e1 hn, upd_same, ru⟩⟩
  obtain ⟨p, u0, rfl, hp0, hp1, ru0⟩ := p1
  have hst : LF (jLI.r H) (ys ++ [z]) v2 H1 := by
    obtain ⟨a, ws, h1, h2, h3⟩ := hx
    exact ⟨a, ws, h1, e1 _ _ h2, h3⟩
  have hdl : (ys ++ [z]).dropLast = ys := List.dropLast_concat
  refine q_forF (F := jLI.r H) (xs := (ys ++ [z]).dropLast.reverse) (ev_rev2F (ev_var rfl hst) (by simp))
    (fun a ws i σ' H' => ∃ (acc : List V) (y : Option V), σ' = [some v1, some v2, some (.ref p), y] ∧ Ex H H' ∧ H' a = some (.lst ws) ∧ H' p = some (.lst acc) ∧ a ≠ p ∧ Paired (jLI.r (wo p H')) acc (CX.wholesK k ((ys.reverse.take i).reverse ++ [z])).reverse)
    (fun a ws H2 e2 hA h2 => ⟨[u0], none, rfl, e1.trans e2, h2, e2 _ _ hp1, (fun c => by rw [c, hp1] at hA; cases hA), ?_⟩) (fun a ws i σ' H' pv => by obtain ⟨_, _, _, _, h, _⟩ := pv; exact h) (fun a ws i x v rx hx' σ' H' pv => ?_) (fun a ws σ' H' pv => ?_)
  · have e : (CX.wholesK k (((ys.reverse.take 0).reverse) ++ [z])).reverse = [z] := by
      show [CX.wholeK k [z]] = [z]
      rw [CX.wholeK_one hg hz1]
    rw [e]
    exact .cons (jLI.mono (wo_old (e1.trans e2) hp0) ru0) .nil
  · obtain ⟨acc, y, rfl, ee, ha, hp, hne, hacc⟩ := pv
    rw [hdl] at hx'
    have hxm : x ∈ ys := List.mem_reverse.mp (List.mem_of_getElem? hx')
    have hi : i < ys.reverse.length := (List.getElem?_eq_some_iff.mp hx').1
    rw [List.length_reverse] at hi
    have hsuf : ∃ pre, ys ++ [z] = pre ++ ((ys.reverse.take i).reverse ++ [z]) := by
      refine ⟨(ys.reverse.drop i).reverse, ?_⟩
      rw [← List.append_assoc, ← List.reverse_append, List.take_append_drop, List.reverse_reverse]
    obtain ⟨pre, hpre⟩ := hsuf
    have okz : CX.AllK k ((ys.reverse.take i).reverse ++ [z]) := fun a ha => hall a (by rw [hpre]; exact List.mem_append_right _ ha)
    have crz : CX.crK k (CX.wholeK k ((ys.reverse.take i).reverse ++ [z])) ≤ 1000 := by
      have h1 := CX.whole_suffix hg pre ((ys.reverse.take i).reverse ++ [z]) (by rw [← hpre]; exact hall)
      rw [← hpre] at h1
      omega
    obtain ⟨w, hw1, hw2⟩ := paired_last hacc (CX.wholes_last z ((ys.reverse.take i).reverse))
    have hacl : acc.length = i + 1 := by
      rw [paired_len hacc, List.length_reverse, CX.wholesK_len, List.length_append, List.length_reverse, List.length_take, List.length_reverse]
      simp
      omega
    have rx' := jLI.mono ee rx
    refine s_app hp (ev_v rfl) (P := Nu jLI H' (CX.starK k x (CX.wholeK k ((ys.reverse.take i).reverse ++ [z])))) ?_ (by omega) fun u H3 e3 pu => ⟨acc ++ [u], some v, rfl, ex_upd (ee.trans e3) hp0, ?_, upd_same, hne, ?_⟩
    · refine nu1 (ev_c3 (x := k) (y := x) (ev_var rfl ((jK C).mono ee hk)) (ev_var rfl rx') (z := CX.wholeK k ((ys.reverse.take i).reverse ++ [z])) (fun H4 e4 Q q => ?_) ⟨hg, hall x (List.mem_append_left _ hxm), CX.wholeK_ok hg okz, crz⟩)
      exact ⟨_, rfl, _, rfl, p, acc, -1, w, rfl, rfl, .inl (.inl (e4 _ _ hp)), atI_m1 hw1, q _ _ (Evl.Ex.refl _) (jLI.mono (wo_ex.trans e4) hw2)⟩
    · rw [upd_ne hne]
      exact e3 _ _ ha
    · have et : ((ys.reverse.take (i + 1)).reverse ++ [z]) = x :: ((ys.reverse.take i).reverse ++ [z]) := by
        rw [List.take_add_one, hx', List.reverse_append]
        rfl
      rw [et, CX.wholesK, List.reverse_cons, CX.wholeK_cons hg]
      refine paired_snoc (paired_mono (fun _ _ p => jLI.mono (wo_upd) (jLI.mono (wo_mono e3) p)) hacc) ?_
      exact jLI.mono wo_upd (jLI.mono (wo_new (by rw [hp]; exact fun z => nomatch z)) pu)
  · obtain ⟨acc, y, rfl, ee, ha, hp, hne, hacc⟩ := pv
    rw [hdl, List.take_length, List.reverse_reverse] at hacc
    have hfd : jLL.r H' (.ref p) (CX.wholesK k (ys ++ [z])).reverse := ⟨p, acc, rfl, hp, paired_mono (fun _ _ q => jLI.mono wo_ex q) hacc⟩
    refine s_ret (ev_copy (ev_revL (ev_var rfl hfd)) (by rw [List.length_reverse, List.length_reverse, CX.wholesK_len, List.length_append]; omega) (fun _ => rfl) (fun _ => rfl)) fun v H5 e5 p5 => ?_
    rw [List.reverse_reverse] at p5
    exact q v H5 _ (ee.trans e5) rfl (p5.back ee)
abbrev spWo (C : Addr) : Sp := sp2 (jK C) jLL jLI preX (fun k xs r => r = CX.wholeK k xs)
theorem c_whole_of (T : Tp K mg C) (D : Dfn K mg "whole_of" s_whole_of) (c_wholes_of : Cal P w K mg base 6 "wholes_of" p_wholes_of (spWs C)) : Cal P w K mg base 7 "whole_of" p_whole_of (spWo C) := by
  refine cal_mk D sc_whole_of (fun _ _ _ _ h => len2 h) (fun _ _ _ _ _ _ us hl => match us, hl with | [_, _], _ => rfl) (fun f cdv A outer s H vs Q E hr h => ?_)
  obtain ⟨v1, v2, k, xs, rfl, hk, hx, ⟨hg, hs⟩, q⟩ := h
  have hr' := hr
  refine ⟨_, (pss_one (ps_ret (pe_ix ix_list (pe_cal c_wholes_of hr' (by rfl) (pa_cons (pv 0) (pa_cons (pv 1) pa_nil))) pe_int (fun _ _ => rfl)))), ?_⟩
  obtain ⟨x, r, rfl⟩ : ∃ x r, xs = x :: r := List.exists_cons_of_ne_nil hs.ne
  exact s_ret (ev_ixLn (j := 0) (nu1 (ev_c2 (ev_var rfl hk) (ev_var rfl hx) ⟨hg, hs⟩)) ev_c rfl rfl) fun v H2 e2 p => q v H2 _ e2 rfl p
end
end SL
end
section
set_option Elab.async false
set_option linter.all false
set_option maxRecDepth 100000
set_option maxHeartbeats 4000000
set_option autoImplicit false
namespace SL
open PySem PySem.Spec PyProof.Rows L2
section
variable {P : Program} {w : World} {K : PySem.W.Frag} {mg : Str → Option Value} {base : Heap} {C : Addr}

theorem filter_none {α : Type} (l : List α) : l.filter (fun _ => false) = [] := List.filter_eq_nil_iff.mpr fun a _ h => nomatch h
abbrev spIls (C : Addr) : Sp := sp2 (jK C) jLL jB preX (fun k xs r => r = true)
theorem c_is_let_standing (T : Tp K mg C) (D : Dfn K mg "is_let_standing" s_is_let_standing) (c_crossings_of : Cal P w K mg base 3 "crossings_of" p_crossings_of (spCr C)) (c_is_let_order : Cal P w K mg base 4 "is_let_order" p_is_let_order (spLet C)) (c_whole_of : Cal P w K mg base 7 "whole_of" p_whole_of (spWo C)) : Cal P w K mg base 8 "is_let_standing" p_is_let_standing (spIls C) := by
  refine cal_mk D sc_is_let_standing (fun _ _ _ _ h => len2 h) (fun _ _ _ _ _ _ us hl => match us, hl with | [_, _], _ => rfl) (fun f cdv A outer s H vs Q E hr h => ?_)
  obtain ⟨v1, v2, k, xs, rfl, hk, hx, ⟨hg, hs⟩, q⟩ := h
  obtain ⟨t, hml⟩ := T.mostL
  obtain ⟨t2, hmc⟩ := T.mostC
  have hlen := hs.len
  have hpos := List.length_pos_iff.mpr hs.ne
  refine ⟨_, (pss_cons (ps_if (PW.pt (pw_or (pt_not (pt_val (pe_callB call_isi (by rfl) T.isinstance (by decide +kernel) (pa_cons (pv 1) (pa_cons (pe_bltn (v := .ty "list") (by rfl) T.list (by decide +kernel) rfl) pa_nil))))) (pw_or1 (pt_not (pt_chain op_le op_le pe_int (pe_callB call_len_seq (by rfl) T.len (by decide +kernel) (pa_cons (pv 1) pa_nil)) (pe_glob (v := .int 8) rfl hml ⟨_, rfl⟩)))))) (pss_one (ps_ret pe_bl)) pss_nil)
      (pss_cons (ps_if (pt_cmpR (op_neD hr.units) (pe_lc (own := [("order", 2)]) (by rfl) sc_is_let_standing.nd (pi_list (pv 1)) (blkOk_by (own := [("order", 2)]) (N := N_is_let_standing) (sc := defScope s_is_let_standing) (by decide +kernel)) (fun _ _ _ _ _ => (pg_name (i := 2) sc_is_let_standing.nd rfl (.inl rfl))) (fun _ _ _ _ _ => pts_one (pt_not (pt_val (pe_cal c_is_let_order (hr.mono (by decide)) (by rfl) (pa_cons (pv 0) (pa_cons (pv 2) pa_nil)))))) (fun _ _ _ _ _ => (pv 2))) (pe_lst pa_nil) (nomark _)) (pss_one (ps_ret pe_bl)) pss_nil)
      (pss_one (ps_ret (pe_cmpR op_le (pe_cal c_crossings_of (hr.mono (by decide)) (by rfl) (pa_cons (pv 0) (pa_cons (pe_cal c_whole_of hr (by rfl) (pa_cons (pv 0) (pa_cons (pv 1) pa_nil))) pa_nil))) (pe_glob (v := .int 60) rfl hmc ⟨_, rfl⟩) (nomark _)))))), ?_⟩
  refine q_skip (et_or0 (et_not (a := true) (et_B (ev_isiL (ev_var rfl hx)))) (et_not (a := true) (et_chain ev_c (ev_lenL lenR (ev_var rfl hx)) ev_c (decide_eq_true (by omega)) (decide_eq_true (by omega))))) fun H1 e1 => ?_
  have hk1 := (jK C).mono e1 hk
  have hx1 := jLL.mono e1 hx
  refine q_skip (et_neN encLI (xs := (xs.filter (fun _ => false)).map (fun x => x)) (Ev.is (ev_lc (S := jLI) (fun _ => false) (fun x => x) (ev_var rfl hx1) (by omega) (fun _ => rfl) (fun i x v H3 e3 hxi rx => et_not (a := true) (et_B (nuB (ev_c2 (ev_var rfl ((jK C).mono e3 hk1)) (ev_var rfl rx) ⟨hg, (hs.all x (List.mem_of_getElem? hxi)).sh hg, hs.mem hg (List.mem_of_getElem? hxi)⟩)))) (fun i x v H3 e3 hxi rx hf => nomatch hf))) |> fun h => h.eq (by rw [filter_none]; rfl)) fun H2 e2 => ?_
  have hk2 := (jK C).mono e2 hk1
  have hx2 := jLL.mono e2 hx1
  refine s_ret ((ev_i0 (nuN (ev_c2 (ev_var rfl hk2) (isN (ev_c2 (ev_var rfl hk2) (ev_var rfl hx2) ⟨hg, hs⟩)) ⟨hg, ((CX.wholeK_ok hg hs.all).sh hg).len⟩)) ev_c).eq (congrArg V.bl (decide_eq_true (by have := hs.cr; omega)))) fun v H3 e3 p => q v H3 _ ((e1.trans e2).trans e3) rfl p
abbrev spCs (C : Addr) : Sp := fun vs H Q _ => ∃ v w k xs, vs = [v, w] ∧ (jK C).r H v k ∧ jLL.r H w xs ∧ preX k xs ∧ ∀ H', Ex H H' → Q .non H'
/-- check_kind(kind) -/
theorem q_ck {σ : L2.St} {H : Hp} {D : Ends} {tz : TS} {ta : TE} {E : XK} {k : CX.Kd} (h : Ev ta σ H (Is (jK C) k)) (kk : ∀ H1, Ex H H1 → tz D σ H1) : tSeq (tDrop (tCall (spCk C) [] E (tCons ta tNil))) tz D σ H :=
  q_call (ea_1 h) (fun vs H1 e ⟨v, ev, p⟩ Q E q => ⟨v, k, ev, p, fun H' e' => q _ _ e' trivial⟩) kk
theorem q_cs {σ : L2.St} {H : Hp} {D : Ends} {tz : TS} {ta tb : TE} {E : XK} {k : CX.Kd} {xs : List (List Int)} (h : Ev ta σ H (Is (jK C) k)) (h2 : Ev tb σ H (Is jLL xs)) (hp : preX k xs) (kk : ∀ H1, Ex H H1 → tz D σ H1) : tSeq (tDrop (tCall (spCs C) [] E (tCons ta (tCons tb tNil)))) tz D σ H :=
  q_call (ea_2 h h2) (fun vs H1 e ⟨v, w, ev, p, p2⟩ Q E q => ⟨v, w, k, xs, ev, p, p2, hp, fun H' e' => q _ _ e' trivial⟩) kk
theorem c_check_standing (T : Tp K mg C) (D : Dfn K mg "check_standing" s_check_standing) (c_check_kind : Cal P w K mg base 1 "check_kind" p_check_kind (spCk C)) (c_is_let_standing : Cal P w K mg base 8 "is_let_standing" p_is_let_standing (spIls C)) : Cal P w K mg base 9 "check_standing" p_check_standing (spCs C) := by
  refine cal_mk D sc_check_standing (fun _ _ _ _ h => by obtain ⟨_, _, _, _, rfl, _⟩ := h; rfl) (fun _ _ _ _ _ _ us hl => match us, hl with | [_, _], _ => rfl) (fun f cdv A outer s H vs Q E hr h => ?_)
  obtain ⟨v1, v2, k, xs, rfl, hk, hx, hp, q⟩ := h
  refine ⟨_, (pss_cons (ps_expr (pe_cal c_check_kind (hr.mono (by decide)) (by rfl) (pa_cons (pv 0) pa_nil)))
      (pss_one (ps_if (pt_not (pt_val (pe_cal c_is_let_standing hr (by rfl) (pa_cons (pv 0) (pa_cons (pv 1) pa_nil))))) (pss_one ps_never) pss_nil))), ?_⟩
  refine q_ck (ev_var rfl hk) fun H1 e1 => ?_
  exact s_skip (et_not (a := true) (et_B (nuB (ev_c2 (ev_var rfl ((jK C).mono e1 hk)) (ev_var rfl (jLL.mono e1 hx)) hp)))) fun H2 e2 => q H2 (e1.trans e2)
abbrev spC2 (C : Addr) : Sp := fun vs H Q _ => ∃ v w u k xs ys, vs = [v, w, u] ∧ (jK C).r H v k ∧ jLL.r H w xs ∧ jLL.r H u ys ∧ preX k xs ∧ preX k ys ∧ xs.length = ys.length ∧ ∀ H', Ex H H' → Q .non H'
theorem q_c2 {σ : L2.St} {H : Hp} {D : Ends} {tz : TS} {ta tb tc : TE} {E : XK} {k : CX.Kd} {xs ys : List (List Int)} (h : Ev ta σ H (Is (jK C) k)) (h2 : Ev tb σ H (Is jLL xs)) (h3 : Ev tc σ H (Is jLL ys)) (hp : preX k xs) (hp2 : preX k ys) (hl : xs.length = ys.length) (kk : ∀ H1, Ex H H1 → tz D σ H1) : tSeq (tDrop (tCall (spC2 C) [] E (tCons ta (tCons tb (tCons tc tNil))))) tz D σ H :=
  q_call (ea_3 h h2 h3) (fun vs H1 e ⟨v, w, u, ev, p, p2, p3⟩ Q E q => ⟨v, w, u, k, xs, ys, ev, p, p2, p3, hp, hp2, hl, fun H' e' => q _ _ e' trivial⟩) kk
theorem c_check_two_standings (T : Tp K mg C) (D : Dfn K mg "check_two_standings" s_check_two_standings) (c_is_let_standing : Cal P w K mg base 8 "is_let_standing" p_is_let_standing (spIls C)) (c_check_standing : Cal P w K mg base 9 "check_standing" p_check_standing (spCs C)) : Cal P w K mg base 10 "check_two_standings" p_check_two_standings (spC2 C) := by
  refine cal_mk D sc_check_two_standings (fun _ _ _ _ h => by obtain ⟨_, _, _, _, _, _, rfl, _⟩ := h; rfl) (fun _ _ _ _ _ _ us hl => match us, hl with | [_, _, _], _ => rfl) (fun f cdv A outer s H vs Q E hr h => ?_)
  obtain ⟨v1, v2, v3, k, xs, ys, rfl, hk, hx, hy, hp, hp2, hl, q⟩ := h
  refine ⟨_, (pss_cons (ps_expr (pe_cal c_check_standing hr (by rfl) (pa_cons (pv 0) (pa_cons (pv 1) pa_nil))))
      (pss_cons (ps_if (pt_not (pt_val (pe_cal c_is_let_standing (hr.mono (by decide)) (by rfl) (pa_cons (pv 0) (pa_cons (pv 2) pa_nil))))) (pss_one ps_never) pss_nil)
      (pss_one (ps_if (pt_cmpR op_ne (pe_callB call_len_seq (by rfl) T.len (by decide +kernel) (pa_cons (pv 1) pa_nil)) (pe_callB call_len_seq (by rfl) T.len (by decide +kernel) (pa_cons (pv 2) pa_nil)) (nomark _)) (pss_one ps_never) pss_nil)))), ?_⟩
  refine q_cs (ev_var rfl hk) (ev_var rfl hx) hp fun H1 e1 => ?_
  refine q_skip (et_not (a := true) (et_B (nuB (ev_c2 (ev_var rfl ((jK C).mono e1 hk)) (ev_var rfl (jLL.mono e1 hy)) hp2)))) fun H2 e2 => ?_
  have e12 := e1.trans e2
  exact s_skip ((et_neI (ev_lenL lenR (ev_var rfl (jLL.mono e12 hx))) (ev_lenL lenR (ev_var rfl (jLL.mono e12 hy)))).eq (by rw [decide_eq_true (by rw [hl])]; rfl)) fun H3 e3 => q H3 (e12.trans e3)
abbrev spCp (C : Addr) : Sp := sp1 jLL jLL (fun xs => xs.length ≤ 100) (fun xs r => r = xs)
theorem c_copied (T : Tp K mg C) (D : Dfn K mg "copied" s_copied) : Cal P w K mg base 1 "copied" p_copied (spCp C) := by
  refine cal_mk D sc_copied (fun _ _ _ _ h => len1 h) (fun _ _ _ _ _ _ us hl => match us, hl with | [_], _ => rfl) (fun f cdv A outer s H vs Q E hr h => ?_)
  obtain ⟨v, xs, rfl, hx, hz, q⟩ := h
  refine ⟨_, (pss_one (ps_ret (pe_lc (own := [("order", 1)]) (by rfl) sc_copied.nd (pi_list (pv 0)) (blkOk_by (own := [("order", 1)]) (N := N_copied) (sc := defScope s_copied) (by decide +kernel)) (fun _ _ _ _ _ => (pg_name (i := 1) sc_copied.nd rfl (.inl rfl))) (fun _ _ _ _ _ => pts_nil) (fun _ _ _ _ _ => (pe_callTy (call_lisK (K := K) rfl) (by rfl) T.list (by decide +kernel) (pa_cons (pv 1) pa_nil)))))), ?_⟩
  exact s_ret (ev_copy (ev_var rfl hx) (by omega) (fun _ => rfl) (fun _ => rfl)) fun v H5 e5 p5 => q v H5 _ e5 rfl p5
abbrev preA (k : CX.Kd) (xs : List (List Int)) : Prop := k.good ∧ CX.AllK k xs ∧ xs.length ≤ 100
abbrev spTo (C : Addr) : Sp := sp2 (jK C) jLL jLL preA (fun k xs r => r = CX.turnK k xs)
theorem c_turned_of (T : Tp K mg C) (D : Dfn K mg "turned_of" s_turned_of) (c_opposite_of : Cal P w K mg base 2 "opposite_of" p_opposite_of (spOpp C)) : Cal P w K mg base 3 "turned_of" p_turned_of (spTo C) := by
  refine cal_mk D sc_turned_of (fun _ _ _ _ h => len2 h) (fun _ _ _ _ _ _ us hl => match us, hl with | [_, _], _ => rfl) (fun f cdv A outer s H vs Q E hr h => ?_)
  obtain ⟨v1, v2, k, xs, rfl, hk, hx, ⟨hg, hall, hz⟩, q⟩ := h
  have hr' := hr
  refine ⟨_, (pss_one (ps_ret (pe_lc (own := [("order", 2)]) (by rfl) sc_turned_of.nd (pi_list (pe_revL (pv 1))) (blkOk_by (own := [("order", 2)]) (N := N_turned_of) (sc := defScope s_turned_of) (by decide +kernel)) (fun _ _ _ _ _ => (pg_name (i := 2) sc_turned_of.nd rfl (.inl rfl))) (fun _ _ _ _ _ => pts_nil) (fun _ _ _ _ _ => (pe_cal c_opposite_of hr' (by rfl) (pa_cons (pv 0) (pa_cons (pv 2) pa_nil))))))), ?_⟩
  exact s_ret (ev_lcA (S := jLI) (CX.oppK k) (ev_revL (ev_var rfl hx)) (by rw [List.length_reverse]; omega) (fun _ => rfl) (fun i x v H3 e3 hxi rx => nu1 (ev_c2 (ev_var rfl ((jK C).mono e3 hk)) (ev_var rfl rx) ⟨hg, (hall x (List.mem_reverse.mp (List.mem_of_getElem? hxi))).sh hg⟩))) fun v H5 e5 p5 => q v H5 _ e5 rfl p5
abbrev spTd (C : Addr) : Sp := sp2 (jK C) jLL jLL preX (fun k xs r => r = CX.turnK k xs)
theorem preXA {k : CX.Kd} {xs : List (List Int)} (h : preX k xs) : preA k xs := ⟨h.1, h.2.all, Nat.le_trans h.2.len (by decide)⟩
theorem c_turned (T : Tp K mg C) (D : Dfn K mg "turned" s_turned) (c_turned_of : Cal P w K mg base 3 "turned_of" p_turned_of (spTo C)) (c_check_standing : Cal P w K mg base 9 "check_standing" p_check_standing (spCs C)) : Cal P w K mg base 10 "turned" p_turned (spTd C) := by
  refine cal_mk D sc_turned (fun _ _ _ _ h => len2 h) (fun _ _ _ _ _ _ us hl => match us, hl with | [_, _], _ => rfl) (fun f cdv A outer s H vs Q E hr h => ?_)
  obtain ⟨v1, v2, k, xs, rfl, hk, hx, hp, q⟩ := h
  refine ⟨_, (pss_cons (ps_expr (pe_cal c_check_standing hr (by rfl) (pa_cons (pv 0) (pa_cons (pv 1) pa_nil))))
      (pss_one (ps_ret (pe_cal c_turned_of (hr.mono (by decide)) (by rfl) (pa_cons (pv 0) (pa_cons (pv 1) pa_nil)))))), ?_⟩
  refine q_cs (ev_var rfl hk) (ev_var rfl hx) hp fun H1 e1 => ?_
  exact s_ret (nu1 (ev_c2 (ev_var rfl ((jK C).mono e1 hk)) (ev_var rfl (jLL.mono e1 hx)) (preXA hp))) fun v H2 e2 p => q v H2 _ (e1.trans e2) rfl (p.back e1)
/-! ### deeds_of, behind_deed -/
abbrev preD (k : CX.Kd) (xs : List (List Int)) : Prop := k.good ∧ CX.AllK k xs ∧ xs ≠ [] ∧ xs.length ≤ 8
abbrev spDs (C : Addr) : Sp := sp2 (jK C) jLL (jL jD) preD (fun k xs r => r = CX.deedsK k xs)
theorem steps7 {k : CX.Kd} (hg : k.good) : k.steps ≤ 7 := Nat.le_trans (steps_le k) (n_le hg).2
theorem c_deeds_of (T : Tp K mg C) (D : Dfn K mg "deeds_of" s_deeds_of) (c_falls_of : Cal P w K mg base 3 "falls_of" p_falls_of (spFalls C)) (c_heads_of : Cal P w K mg base 4 "heads_of" p_heads_of (spHeads C)) : Cal P w K mg base 5 "deeds_of" p_deeds_of (spDs C) := by
  refine cal_mk D sc_deeds_of (fun _ _ _ _ h => len2 h) (fun _ _ _ _ _ _ us hl => match us, hl with | [_, _], _ => rfl) (fun f cdv A outer s H vs Q E hr h => ?_)
  obtain ⟨v1, v2, k, xs, rfl, hk, hx, ⟨hg, hall, hne, hz⟩, q⟩ := h
  have hpos := List.length_pos_iff.mpr hne
  have hs7 := steps7 hg
  refine ⟨_, (pss_cons (ps_set (i := 2) sc_deeds_of.nd rfl (.inl rfl) (pe_lst pa_nil))
      (pss_cons (ps_for PassesOwn.never rfl (pi_range1 rfl T.range (pa_cons (pe_op op_sub (pe_callB call_len_seq (by rfl) T.len (by decide +kernel) (pa_cons (pv 1) pa_nil)) pe_int) pa_nil)) (pg_name (i := 3) sc_deeds_of.nd rfl (.inr rfl)) (pss_cons (ps_set (i := 2) sc_deeds_of.nd rfl (.inl rfl) (pe_op op_cat (pv 2) (pe_lc (own := [("step", 4)]) (by rfl) sc_deeds_of.nd (pi_list (pe_cal c_falls_of (hr.mono (by decide)) (by rfl) (pa_cons (pv 0) (pa_cons (pe_ix ix_list (pv 1) (pv 3) (fun _ _ => rfl)) pa_nil)))) (blkOk_by (own := [("step", 4)]) (N := N_deeds_of) (sc := defScope s_deeds_of) (by decide +kernel)) (fun _ _ _ _ _ => (pg_name (i := 4) sc_deeds_of.nd rfl (.inl rfl))) (fun _ _ _ _ _ => pts_nil) (fun _ _ _ _ _ => (pe_tup (pa_cons (pv 3) (pa_cons pe_str (pa_cons (pv 4) pa_nil))))))))
      (pss_one (ps_set (i := 2) sc_deeds_of.nd rfl (.inl rfl) (pe_op op_cat (pv 2) (pe_lc (own := [("step", 4)]) (by rfl) sc_deeds_of.nd (pi_list (pe_cal c_heads_of hr (by rfl) (pa_cons (pv 0) (pa_cons (pe_ix ix_list (pv 1) (pe_op op_add (pv 3) pe_int) (fun _ _ => rfl)) pa_nil)))) (blkOk_by (own := [("step", 4)]) (N := N_deeds_of) (sc := defScope s_deeds_of) (by decide +kernel)) (fun _ _ _ _ _ => (pg_name (i := 4) sc_deeds_of.nd rfl (.inl rfl))) (fun _ _ _ _ _ => pts_nil) (fun _ _ _ _ _ => (pe_tup (pa_cons (pv 3) (pa_cons pe_str (pa_cons (pv 4) pa_nil)))))))))))
      (pss_one (ps_ret (pv 2))))), ?_⟩
  refine q_set (ev_nil (R := jD)) fun v H1 e1 p1 => ?_
  refine q_forR (n := xs.length - 1) ((ev_i0 (ev_lenL lenR (ev_var rfl (jLL.mono e1 hx))) ev_c).eq (congrArg V.int (by omega))) (by omega) (fun i σ' H' => ∃ (u : V) (y z : Option V), σ' = [some v1, some v2, some u, y, z] ∧ Ex H H' ∧ Nu (jL jD) H ((List.range i).flatMap (CX.seamK k xs)) u H')
    (fun H2 e2 => ⟨v, none, none, rfl, e1.trans e2, (jL jD).mono (newOf_mono e2) p1⟩) (fun i σ' H' hi pv => ?_) (fun σ' H' pv => ?_)
  · obtain ⟨u, y, z, rfl, ee, hu⟩ := pv
    have hk' := (jK C).mono ee hk
    have hx' := jLL.mono ee hx
    have g1 := gL_some (xs := xs) (i := i) (by omega)
    have g2 := gL_some (xs := xs) (i := i + 1) (by omega)
    have ok1 := hall _ (List.mem_of_getElem? g1)
    have ok2 := hall _ (List.mem_of_getElem? g2)
    have l0 : ((List.range i).flatMap (CX.seamK k xs)).length ≤ i * 14 := CX.flat_len _ 14 (fun j => Nat.le_trans (CX.seamK_len k xs j) (by omega)) i
    have l1 := CX.filter_le (List.range k.steps) (CX.fallK k (CX.gL xs i))
    have l2 := CX.filter_le (List.range k.steps) (CX.fallK k (CX.oppK k (CX.gL xs (i + 1))))
    rw [List.length_range] at l1 l2
    refine q_set (ev_cat (H0 := H) (xs := (List.range i).flatMap (CX.seamK k xs)) (ys := (CX.fallsK k (CX.gL xs i)).map (fun s => ⟨i, false, s⟩)) ee (ev_var rfl hu) (Ev.imp (ev_lcA (S := jD) (xs := CX.fallsK k (CX.gL xs i)) (fun s => ⟨i, false, s⟩) (Ev.is (nu1 (ev_c2 (x := k) (y := CX.gL xs i) (ev_var rfl hk') (ev_ixL (j := i) (ev_var rfl hx') (ev_v rfl) rfl g1) ⟨hg, (ok1.sh hg).len⟩))) (by show ((List.range k.steps).filter _).length ≤ 40000; omega) (fun _ => rfl) (fun j s v H3 e3 hs rs => ev_deed (ev_v rfl) ev_c (ev_v (congrArg (fun z => some (some z)) rs)))) fun v H4 e4 p4 => p4.back ee) (by rw [List.length_map]; show _ + ((List.range k.steps).filter _).length ≤ 100000; omega)) fun v4 H4 e4 p4 => ?_
    have ee4 := ee.trans e4
    have hk4 := (jK C).mono e4 hk'
    have hx4 := jLL.mono e4 hx'
    refine s_set (ev_cat (H0 := H) (xs := (List.range i).flatMap (CX.seamK k xs) ++ (CX.fallsK k (CX.gL xs i)).map (fun s => ⟨i, false, s⟩)) (ys := (CX.headsK k (CX.gL xs (i + 1))).map (fun s => ⟨i, true, s⟩)) ee4 (ev_var rfl p4) (Ev.imp (ev_lcA (S := jD) (xs := CX.headsK k (CX.gL xs (i + 1))) (fun s => ⟨i, true, s⟩) (Ev.is (nu1 (ev_c2 (x := k) (y := CX.gL xs (i + 1)) (ev_var rfl hk4) (ev_ixL (j := i + 1) (ev_var rfl hx4) (ev_i0 (ev_v rfl) ev_c) (by omega) g2) ⟨hg, ok2.sh hg⟩))) (by show ((List.range k.steps).filter _).length ≤ 40000; omega) (fun _ => rfl) (fun j s v H3 e3 hs rs => ev_deed (ev_v rfl) ev_c (ev_v (congrArg (fun z => some (some z)) rs)))) fun v H4 e4 p4 => p4.back ee4) (by rw [List.length_append, List.length_map, List.length_map]; show _ + ((List.range k.steps).filter _).length + ((List.range k.steps).filter _).length ≤ 100000; omega)) fun v5 H5 e5 p5 => ⟨v5, some (.int (i : Int)), z, rfl, ee4.trans e5, ?_⟩
    have er : (List.range (i + 1)).flatMap (CX.seamK k xs) = (List.range i).flatMap (CX.seamK k xs) ++ (CX.fallsK k (CX.gL xs i)).map (fun s => ⟨i, false, s⟩) ++ (CX.headsK k (CX.gL xs (i + 1))).map (fun s => ⟨i, true, s⟩) := by
      rw [List.range_succ, List.flatMap_append, List.append_assoc]
      simp only [List.flatMap_cons, List.flatMap_nil, List.append_nil]
      rfl
    rw [er]
    exact p5
  · obtain ⟨u, y, z, rfl, ee, hu⟩ := pv
    exact s_ret (ev_var (P := Nu (jL jD) H (CX.deedsK k xs)) rfl hu) fun v5 H5 e5 p5 => q v5 H5 _ (ee.trans e5) rfl p5
abbrev preB (k : CX.Kd) (xs : List (List Int)) (d : CX.Deed) : Prop := k.good ∧ CX.AllK k xs ∧ xs.length ≤ 8 ∧ d.seam + 1 < xs.length ∧ d.step < k.steps
abbrev spBd (C : Addr) : Sp := sp3 (jK C) jLL jD jLL preB (fun k xs d r => r = CX.behK k xs d)
theorem c_behind_deed (T : Tp K mg C) (D : Dfn K mg "behind_deed" s_behind_deed) (c_copied : Cal P w K mg base 1 "copied" p_copied (spCp C)) (c_by_step : Cal P w K mg base 2 "by_step" p_by_step (spBy C)) (c_ahead_of : Cal P w K mg base 4 "ahead_of" p_ahead_of (spAhead C)) : Cal P w K mg base 5 "behind_deed" p_behind_deed (spBd C) := by
  refine cal_mk D sc_behind_deed (fun _ _ _ _ h => len3 h) (fun _ _ _ _ _ _ us hl => match us, hl with | [_, _, _], _ => rfl) (fun f cdv A outer s H vs Q E hr h => ?_)
  obtain ⟨v1, v2, v3, k, xs, d, rfl, hk, hx, hd, ⟨hg, hall, hz, hseam, hstep⟩, q⟩ := h
  refine ⟨_, (pss_cons (ps_asg (pv 2) (pg_tup rfl (pgs_cons (pg_name (i := 3) sc_behind_deed.nd rfl (.inl rfl)) (pgs_cons (pg_name (i := 4) sc_behind_deed.nd rfl (.inl rfl)) (pgs_cons (pg_name (i := 5) sc_behind_deed.nd rfl (.inl rfl)) pgs_nil)))))
      (pss_cons (ps_set (i := 6) sc_behind_deed.nd rfl (.inl rfl) (pe_cal c_copied (hr.mono (by decide)) (by rfl) (pa_cons (pv 1) pa_nil)))
      (pss_cons (ps_if (pt_cmpR op_eq (pv 4) pe_str (nomark _)) (pss_one (ps_asg (pe_cal c_by_step (hr.mono (by decide)) (by rfl) (pa_cons (pv 0) (pa_cons (pe_ix ix_list (pv 1) (pv 3) (fun _ _ => rfl)) (pa_cons (pv 5) pa_nil)))) (pg_sub (pv 6) (pv 3) set_list))) (pss_one (ps_asg (pe_cal c_ahead_of hr (by rfl) (pa_cons (pv 0) (pa_cons (pe_ix ix_list (pv 1) (pe_op op_add (pv 3) pe_int) (fun _ _ => rfl)) (pa_cons (pv 5) pa_nil)))) (pg_sub (pv 6) (pe_op op_add (pv 3) pe_int) set_list))))
      (pss_one (ps_ret (pv 6)))))), ?_⟩
  refine q_deed (ev_var rfl hd) fun H1 e1 => ?_
  refine q_set (nu1 (ev_c1 (ev_var rfl (jLL.mono e1 hx)) (by omega))) fun v H2 e2 p2 => ?_
  obtain ⟨p, ws, rfl, hp1, hp2, hlw, hpw⟩ := nuLL p2
  have hp0 := fresh0 e1 hp1
  have e12 := e1.trans e2
  have hpw' : Paired (jLI.r (nw H p H2)) ws xs := paired_mono (fun _ _ z => jLI.mono (fun a o ha => by
    obtain ⟨h1, h2, h3⟩ := nw_some ha
    rw [nw_at (fresh0 e1 h2) h1]; exact h3) z) hpw
  have fin : ∀ (σ : L2.St) (H5 : Hp) (j : Nat) (x : List Int) (u : V), σ[6]? = some (some (V.ref p)) → Ex H2 H5 → Nu jLI H2 x u H5 → CX.behK k xs d = xs.set j x → tRet (tVar 6) { nx := fun x H' => Q V.non H', rt := Q } σ (upd H5 p (.lst (ws.set j u))) := fun σ H5 j x u h6 e5 hu eb =>
    s_ret (ev_v h6) fun v H6 e6 p6 => by
      cases p6
      refine q _ H6 _ ((ex_upd (e12.trans e5) hp0).trans e6) eb.symm (jL_new hp0 (e6 _ _ upd_same) ?_)
      refine paired_mono (fun _ _ z => jLI.mono ((nw_new (p := p)).trans (newOf_mono e6)) z) (paired_set j (paired_mono (fun _ _ z => jLI.mono ((nw_mono e5).trans nw_upd) z) hpw') (jLI.mono ?_ hu))
      exact (nw_of e12 (by rw [hp2]; exact fun z => nomatch z)).trans nw_upd
  have g1 := gL_some (xs := xs) (i := d.seam) (by omega)
  have g2 := gL_some (xs := xs) (i := d.seam + 1) (by omega)
  have ok1 := hall _ (List.mem_of_getElem? g1)
  have ok2 := hall _ (List.mem_of_getElem? g2)
  refine q_if ((et_test (ev_eq (ev_v rfl) ev_c rfl)).eq (sd_up d.up)) (fun hu H3 e3 => ?_) (fun hu H3 e3 => ?_)
  · have hk3 := (jK C).mono (e12.trans e3) hk
    have hx3 := jLL.mono (e12.trans e3) hx
    refine s_setA (e3 _ _ hp2) (nu1 (ev_c3 (x := k) (y := CX.gL xs d.seam) (z := d.step) (ev_var rfl hk3) (ev_ixL (j := d.seam) (ev_var rfl hx3) (ev_v rfl) rfl g1) (ev_v rfl) ⟨hg, (ok1.sh hg).len, hstep⟩)) (ev_v rfl) (ev_v rfl) (j := d.seam) rfl (by omega) fun u H5 e5 pu => ?_
    exact fin _ H5 d.seam _ u rfl (e3.trans e5) (pu.back e3) (if_pos hu)
  · have hk3 := (jK C).mono (e12.trans e3) hk
    have hx3 := jLL.mono (e12.trans e3) hx
    refine s_setA (e3 _ _ hp2) (nu1 (ev_c3 (x := k) (y := CX.gL xs (d.seam + 1)) (z := d.step) (ev_var rfl hk3) (ev_ixL (j := d.seam + 1) (ev_var rfl hx3) (ev_i0 (ev_v rfl) ev_c) (by omega) g2) (ev_v rfl) ⟨hg, ok2.sh hg, hstep⟩)) (ev_v rfl) (ev_i0 (ev_v rfl) ev_c) (j := d.seam + 1) (by omega) (by omega) fun u H5 e5 pu => ?_
    exact fin _ H5 (d.seam + 1) _ u rfl (e3.trans e5) (pu.back e3) (if_neg (by rw [hu]; exact Bool.false_ne_true))
end
end SL
end
section
set_option Elab.async false
set_option linter.all false
set_option autoImplicit false
/-! Deeds of a kind: that they keep the whole, lead up, and how high a standing is. -/
namespace CX
section
variable {k : Kd} {xs ys zs : List (List Int)} {x y w : List Int} {s i j : Nat} {d : Deed} {ds : List Deed}
noncomputable def htK (k : Kd) (xs : List (List Int)) : Nat := open Classical in if h : k.good then ht (sysK k h) xs else 0
theorem htK_eq (h : k.good) : htK k xs = ht (sysK k h) xs := dif_pos h
def DdK (k : Kd) (xs : List (List Int)) (d : Deed) (ys : List (List Int)) : Prop := ∃ hg : k.good, Dd (sysK k hg) xs d ys
def LeadsK (k : Kd) (xs : List (List Int)) (ds : List Deed) (ys : List (List Int)) : Prop := ∃ hg : k.good, Leads (sysK k hg) xs ds ys
theorem LeadsK.nil (hg : k.good) : LeadsK k xs [] xs := ⟨hg, Leads.nil xs⟩
theorem LeadsK.snoc (h : LeadsK k xs ds ys) (hd : DdK k ys d zs) : LeadsK k xs (ds ++ [d]) zs := by
  obtain ⟨hg, h⟩ := h
  obtain ⟨_, hd⟩ := hd
  exact ⟨hg, h.snoc hd⟩
theorem DdK.whole (h : DdK k xs d ys) (a : AllK k xs) : wholeK k ys = wholeK k xs := by
  obtain ⟨hg, h⟩ := h
  rw [wholeK_eq hg, wholeK_eq hg]
  exact h.whole (a.ok hg)
theorem DdK.all (h : DdK k xs d ys) (a : AllK k xs) : AllK k ys := by
  obtain ⟨hg, h⟩ := h
  exact h.ok (a.ok hg)
theorem DdK.length (h : DdK k xs d ys) : ys.length = xs.length := by
  obtain ⟨hg, h⟩ := h
  exact h.length
theorem DdK.std (h : DdK k xs d ys) (a : StdK k xs) : StdK k ys := by
  have hl := h.length
  refine ⟨fun e => a.ne (List.eq_nil_of_length_eq_zero (by rw [← hl, e]; rfl)), by rw [hl]; exact a.len, h.all a.all, by rw [h.whole a.all]; exact a.cr⟩
theorem gL_get (h : i < xs.length) : gL xs i = xs[i] := by
  unfold gL
  rw [List.getD_eq_getElem?_getD, List.getElem?_eq_getElem h]
  rfl
theorem gL_in (h : i < xs.length) : gL xs i ∈ xs := by
  rw [gL_get h]
  exact List.getElem_mem h
theorem cut1 (h : i < xs.length) : xs.drop i = gL xs i :: xs.drop (i + 1) := by
  rw [gL_get h]
  exact List.drop_eq_getElem_cons h
theorem cut2 (h : i + 1 < xs.length) : xs = xs.take i ++ gL xs i :: gL xs (i + 1) :: xs.drop (i + 2) := by
  rw [← cut1 h, ← cut1 (by omega), List.take_append_drop]
theorem set_pre (pre : List (List Int)) (x z : List Int) (r : List (List Int)) : (pre ++ x :: r).set pre.length z = pre ++ z :: r := by
  rw [List.set_append_right _ _ (Nat.le_refl _), Nat.sub_self]
  rfl
theorem set_pre1 (pre : List (List Int)) (x y z : List Int) (r : List (List Int)) : (pre ++ x :: y :: r).set (pre.length + 1) z = pre ++ x :: z :: r := by
  rw [List.set_append_right _ _ (by omega), show pre.length + 1 - pre.length = 1 by omega]
  rfl
/-- what is asked of a deed -/
structure Fit (k : Kd) (xs : List (List Int)) (d : Deed) : Prop where
  seam : d.seam + 1 < xs.length
  step : d.step < k.steps
  up : d.up = true → headK k (gL xs (d.seam + 1)) d.step = true
  low : d.up = false → fallK k (gL xs d.seam) d.step = true
theorem take_len (h : i ≤ xs.length) : (xs.take i).length = i := by rw [List.length_take]; omega
theorem beh_up (h : d.seam + 1 < xs.length) (hu : d.up = true) : behK k xs d = xs.take d.seam ++ byK k (gL xs d.seam) d.step :: gL xs (d.seam + 1) :: xs.drop (d.seam + 2) := by
  unfold behK
  rw [if_pos hu]
  have e := set_pre (xs.take d.seam) (gL xs d.seam) (byK k (gL xs d.seam) d.step) (gL xs (d.seam + 1) :: xs.drop (d.seam + 2))
  rw [← cut2 h, take_len (by omega)] at e
  exact e
theorem beh_low (h : d.seam + 1 < xs.length) (hu : d.up = false) : behK k xs d = xs.take d.seam ++ gL xs d.seam :: aheadK k (gL xs (d.seam + 1)) d.step :: xs.drop (d.seam + 2) := by
  unfold behK
  rw [if_neg (by rw [hu]; exact Bool.false_ne_true)]
  have e := set_pre1 (xs.take d.seam) (gL xs d.seam) (gL xs (d.seam + 1)) (aheadK k (gL xs (d.seam + 1)) d.step) (xs.drop (d.seam + 2))
  rw [← cut2 h, take_len (by omega)] at e
  exact e
theorem Fit.dd (hg : k.good) (h : Fit k xs d) : DdK k xs d (behK k xs d) := by
  refine ⟨hg, ?_⟩
  have e := cut2 h.seam
  obtain ⟨se, u, st⟩ := d
  cases u with
  | true =>
    rw [beh_up h.seam rfl]
    have z := Dd.up (S := sysK k hg) (xs.take se) (gL xs se) (gL xs (se + 1)) (xs.drop (se + 2)) st h.step (h.up rfl)
    rw [take_len (by have := h.seam; dsimp at this; omega)] at z
    rw [← e] at z
    exact z
  | false =>
    rw [beh_low h.seam rfl]
    have z := Dd.low (S := sysK k hg) (xs.take se) (gL xs se) (gL xs (se + 1)) (xs.drop (se + 2)) st h.step (h.low rfl)
    rw [take_len (by have := h.seam; dsimp at this; omega)] at z
    rw [← e] at z
    exact z
theorem deeds_fit (h : d ∈ deedsK k xs) : Fit k xs d := by
  obtain ⟨i, hi, hd⟩ := List.mem_flatMap.mp h
  have hi := List.mem_range.mp hi
  unfold seamK at hd
  rcases List.mem_append.mp hd with hd | hd
  · obtain ⟨s, hs, rfl⟩ := List.mem_map.mp hd
    obtain ⟨h1, h2⟩ := List.mem_filter.mp hs
    exact ⟨by show i + 1 < _; omega, List.mem_range.mp h1, (fun e => nomatch e), fun _ => h2⟩
  · obtain ⟨s, hs, rfl⟩ := List.mem_map.mp hd
    obtain ⟨h1, h2⟩ := List.mem_filter.mp hs
    exact ⟨by show i + 1 < _; omega, List.mem_range.mp h1, fun _ => h2, fun e => nomatch e⟩
theorem fit_deeds (h : Fit k xs d) : d ∈ deedsK k xs := by
  have h1 := h.seam
  refine List.mem_flatMap.mpr ⟨d.seam, List.mem_range.mpr (by omega), ?_⟩
  unfold seamK
  obtain ⟨se, u, st⟩ := d
  cases u with
  | true => exact List.mem_append_right _ (List.mem_map.mpr ⟨st, List.mem_filter.mpr ⟨List.mem_range.mpr h.step, h.up rfl⟩, rfl⟩)
  | false => exact List.mem_append_left _ (List.mem_map.mpr ⟨st, List.mem_filter.mpr ⟨List.mem_range.mpr h.step, h.low rfl⟩, rfl⟩)
/-! ### heights -/
noncomputable def hT (k : Kd) (xs : List (List Int)) : Nat → Int
  | 0 => 0
  | i + 1 => hT k xs i + (if i = 0 then 1 else 2) * (crK k (wholeK k (xs.drop i)) : Int) - (crK k (gL xs i) : Int)
theorem hT_all (hg : k.good) (h : AllK k xs) (hne : xs ≠ []) : ∀ i, 1 ≤ i → i ≤ xs.length → (htK k xs : Int) = hT k xs i + ((crK k (wholeK k (xs.drop i)) + htK k (xs.drop i) : Nat) : Int)
  | 0, h0, _ => absurd h0 (by decide)
  | 1, _, _ => by
    cases xs with
    | nil => exact absurd rfl hne
    | cons x xs =>
      have h1 := len_star_l (S := sysK k hg) (h x List.mem_cons_self) (whole_ok (AllOk.tail (h.ok hg)))
      rw [htK_eq hg]
      show (((sysK k hg).len (star (sysK k hg) x (whole (sysK k hg) xs)) - (sysK k hg).len x + (sysK k hg).len (whole (sysK k hg) xs) + ht (sysK k hg) xs : Nat) : Int) = (0 : Int) + (if (0 : Nat) = 0 then 1 else 2) * (crK k (wholeK k (x :: xs)) : Int) - (crK k x : Int) + ((crK k (wholeK k xs) + htK k xs : Nat) : Int)
      rw [if_pos rfl, htK_eq hg, wholeK_eq hg, wholeK_eq hg, whole_cons]
      have e : ∀ z, (sysK k hg).len z = crK k z := fun _ => rfl
      rw [e, e] at h1
      rw [e, e, e]
      omega
  | i + 2, _, h2 => by
    have ih := hT_all hg h hne (i + 1) (by omega) (by omega)
    have h1 := len_star_l (S := sysK k hg) (h _ (gL_in (i := i + 1) (by omega))) (whole_ok (xs := xs.drop (i + 1 + 1)) (fun z hz => h z (List.mem_of_mem_drop hz)))
    rw [ih]
    have e : ∀ z, (sysK k hg).len z = crK k z := fun _ => rfl
    show _ = hT k xs (i + 1) + (if i + 1 = 0 then 1 else 2) * (crK k (wholeK k (xs.drop (i + 1))) : Int) - (crK k (gL xs (i + 1)) : Int) + ((crK k (wholeK k (xs.drop (i + 1 + 1))) + htK k (xs.drop (i + 1 + 1)) : Nat) : Int)
    rw [if_neg (by omega), cut1 (i := i + 1) (by omega), htK_eq hg, htK_eq hg, wholeK_eq hg, wholeK_eq hg, whole_cons]
    show hT k xs (i + 1) + ((crK k (star (sysK k hg) (gL xs (i + 1)) (whole (sysK k hg) (xs.drop (i + 1 + 1)))) + ((sysK k hg).len (star (sysK k hg) (gL xs (i + 1)) (whole (sysK k hg) (xs.drop (i + 1 + 1)))) - (sysK k hg).len (gL xs (i + 1)) + (sysK k hg).len (whole (sysK k hg) (xs.drop (i + 1 + 1))) + ht (sysK k hg) (xs.drop (i + 1 + 1))) : Nat) : Int) = _
    rw [e, e] at h1
    rw [e, e, e]
    omega
theorem hT_ht (hg : k.good) (h : AllK k xs) (hne : xs ≠ []) : hT k xs xs.length = (htK k xs : Int) := by
  have hp := List.length_pos_iff.mpr hne
  rw [hT_all hg h hne xs.length (by omega) (Nat.le_refl _), List.drop_length, htK_eq hg, wholeK_eq hg]
  show hT k xs xs.length = hT k xs xs.length + ((crK k k.start + 0 : Nat) : Int)
  rw [cr_start hg]
  omega
theorem htK_le (hg : k.good) : ∀ xs : List (List Int), AllK k xs → crK k (wholeK k xs) ≤ 60 → htK k xs ≤ 120 * xs.length
  | [], _, _ => by
    rw [htK_eq hg]
    exact Nat.le_refl _
  | x :: xs, h, hc => by
    have h1 : AllK k xs := fun z hz => h z (List.mem_cons_of_mem _ hz)
    have h2 := whole_suffix hg [x] xs h
    have h3 := htK_le hg xs h1 (Nat.le_trans h2 hc)
    have h4 : crK k (wholeK k ([x] ++ xs)) ≤ 60 := hc
    rw [htK_eq hg] at h3 ⊢
    rw [wholeK_eq hg] at hc
    rw [wholeK_eq hg, wholeK_eq hg] at h2
    show crK k (star (sysK k hg) x (whole (sysK k hg) xs)) - crK k x + crK k (whole (sysK k hg) xs) + ht (sysK k hg) xs ≤ _
    have h5 : crK k (star (sysK k hg) x (whole (sysK k hg) xs)) ≤ 60 := hc
    have h6 : crK k (whole (sysK k hg) xs) ≤ crK k (star (sysK k hg) x (whole (sysK k hg) xs)) := h2
    rw [List.length_cons]
    omega
theorem StdK.ht_le (hg : k.good) (h : StdK k xs) : htK k xs ≤ 960 := by
  have h1 := htK_le hg xs h.all h.cr
  have h2 := h.len
  omega
/-! ### the deeds that lead up -/
noncomputable def restK (k : Kd) (xs : List (List Int)) (d : Deed) : List Int := if d.seam + 2 = xs.length then aheadK k (gL xs (d.seam + 1)) d.step else starK k (aheadK k (gL xs (d.seam + 1)) d.step) (gL (wholesK k xs) (d.seam + 2))
noncomputable def lupK (k : Kd) (xs : List (List Int)) (d : Deed) : Bool :=
  if d.up = true then !fallK k (gL xs d.seam) d.step
  else if headK k (gL xs (d.seam + 1)) d.step = false then headK k (gL (wholesK k xs) (d.seam + 1)) d.step
  else !headK k (restK k xs d) d.step
theorem gL_wholes (h : i < xs.length) : gL (wholesK k xs) i = wholeK k (xs.drop i) := by
  unfold gL
  rw [List.getD_eq_getElem?_getD, wholesK_get xs i h]
  rfl
theorem rest_eq (hg : k.good) (h : AllK k xs) (hd : Fit k xs d) : restK k xs d = wholeK k (aheadK k (gL xs (d.seam + 1)) d.step :: xs.drop (d.seam + 2)) := by
  unfold restK
  have h1 := hd.seam
  have h2 : Okk k (aheadK k (gL xs (d.seam + 1)) d.step) := (h _ (gL_in h1)).ahead hg hd.step
  by_cases c : d.seam + 2 = xs.length
  · rw [if_pos c, c, List.drop_length, wholeK_one hg h2]
  · rw [if_neg c, gL_wholes (by omega), wholeK_cons hg]
theorem AllK.split (h : AllK k xs) (hd : d.seam + 1 < xs.length) : AllK k (xs.take d.seam ++ gL xs d.seam :: gL xs (d.seam + 1) :: xs.drop (d.seam + 2)) := by
  rw [← cut2 hd]
  exact h
theorem lup_up (hg : k.good) (h : AllK k xs) (hd : Fit k xs d) (hl : lupK k xs d = true) : htK k (behK k xs d) + 1 = htK k xs := by
  have hs := AllK.ok (h.split hd.seam) hg
  have e := cut2 hd.seam
  unfold lupK at hl
  have hn : ∀ zs, htK k zs = ht (sysK k hg) zs := fun zs => htK_eq hg
  rw [hn, hn]
  by_cases c : d.up = true
  · rw [if_pos c] at hl
    have hf : fallK k (gL xs d.seam) d.step = false := by simpa using hl
    have z := ht_up (S := sysK k hg) hs hd.step (hd.up c) hf
    rw [← e] at z
    rw [beh_up hd.seam c]
    exact z
  · have c' : d.up = false := by simpa using c
    rw [if_neg c] at hl
    rw [beh_low hd.seam c']
    by_cases c2 : headK k (gL xs (d.seam + 1)) d.step = false
    · rw [if_pos c2, gL_wholes hd.seam, cut1 hd.seam, wholeK_eq hg] at hl
      have z := ht_low1 (S := sysK k hg) hs hd.step (hd.low c') c2 hl
      rw [← e] at z
      exact z
    · rw [if_neg c2, rest_eq hg h hd, wholeK_eq hg] at hl
      have hh : headK k (gL xs (d.seam + 1)) d.step = true := by simpa using c2
      have hl' : headK k (whole (sysK k hg) (aheadK k (gL xs (d.seam + 1)) d.step :: List.drop (d.seam + 2) xs)) d.step = false := by simpa using hl
      have z := ht_low2 (S := sysK k hg) hs hd.step (hd.low c') hh hl'
      rw [← e] at z
      exact z
/-! ### the last layer that is not the start -/
def lastAt (k : Kd) (xs : List (List Int)) : Nat → Nat
  | 0 => 0
  | i + 1 => if gL xs (i + 1) = k.start then lastAt k xs i else i + 1
def lastK (k : Kd) (xs : List (List Int)) : Nat := lastAt k xs (xs.length - 1)
theorem lastAt_le : ∀ i, lastAt k xs i ≤ i
  | 0 => Nat.le_refl _
  | i + 1 => by
    unfold lastAt
    split
    · exact Nat.le_trans (lastAt_le i) (Nat.le_succ i)
    · exact Nat.le_refl _
theorem lastAt_ne : ∀ i, 0 < lastAt k xs i → gL xs (lastAt k xs i) ≠ k.start
  | 0, h => absurd h (Nat.lt_irrefl 0)
  | i + 1, h => by
    unfold lastAt at h ⊢
    split
    · rename_i c
      rw [if_pos c] at h
      exact lastAt_ne i h
    · rename_i c
      exact c
theorem lastAt_rest : ∀ i j, lastAt k xs i < j → j ≤ i → gL xs j = k.start
  | 0, j, h, h2 => by omega
  | i + 1, j, h, h2 => by
    unfold lastAt at h
    split at h
    · rename_i c
      by_cases e : j = i + 1
      · rw [e, c]
      · exact lastAt_rest i j h (by omega)
    · omega
theorem lastK_lt (h : xs ≠ []) : lastK k xs < xs.length := by
  have := lastAt_le (k := k) (xs := xs) (xs.length - 1)
  have := List.length_pos_iff.mpr h
  unfold lastK
  omega
theorem lastK_rest (h : xs ≠ []) : xs.drop (lastK k xs + 1) = List.replicate (xs.length - 1 - lastK k xs) k.start := by
  have hl := lastK_lt (k := k) h
  refine List.ext_getElem (by rw [List.length_drop, List.length_replicate]; omega) fun j h1 h2 => ?_
  rw [List.getElem_replicate, List.getElem_drop, ← gL_get]
  rw [List.length_drop] at h1
  exact lastAt_rest (xs.length - 1) _ (by show lastK k xs < _; omega) (by omega)
def topK (k : Kd) (w : List Int) (n : Nat) : List (List Int) := w :: List.replicate n k.start
def botK (k : Kd) (w : List Int) (n : Nat) : List (List Int) := List.replicate n k.start ++ [w]
theorem last_zero (hg : k.good) (h : AllK k xs) (hne : xs ≠ []) (h0 : lastK k xs = 0) : xs = topK k (wholeK k xs) (xs.length - 1) := by
  cases xs with
  | nil => exact absurd rfl hne
  | cons x xs =>
    have e := lastK_rest (k := k) hne
    rw [h0] at e
    have e : xs = List.replicate xs.length k.start := e
    have h1 := whole_highst (S := sysK k hg) (h x List.mem_cons_self) xs.length
    unfold topK
    rw [wholeK_eq hg, List.length_cons, Nat.add_sub_cancel, ← e]
    congr 1
    rw [e]
    exact h1.symm
theorem ht_top (hg : k.good) (hw : Okk k w) (n : Nat) : htK k (topK k w n) = 0 := by
  rw [htK_eq hg]
  exact ht_high (S := sysK k hg) hw n
theorem ht_bot (hg : k.good) (hw : Okk k w) (n : Nat) : htK k (botK k w n) = 2 * n * crK k w := by
  rw [htK_eq hg]
  exact ht_lowst (S := sysK k hg) hw n
theorem whole_top (hg : k.good) (hw : Okk k w) (n : Nat) : wholeK k (topK k w n) = w := by
  rw [wholeK_eq hg]
  exact whole_highst (S := sysK k hg) hw n
theorem whole_bot (hg : k.good) (hw : Okk k w) (n : Nat) : wholeK k (botK k w n) = w := by
  rw [wholeK_eq hg]
  exact whole_lowst (S := sysK k hg) hw n
theorem all_rep (n : Nat) : AllK k (List.replicate n k.start) := fun z hz => by
  rw [List.eq_of_mem_replicate hz]
  exact Okk.start
theorem all_top (hw : Okk k w) (n : Nat) : AllK k (topK k w n) := fun z hz => by
  rcases List.mem_cons.mp hz with e | e
  · rw [e]; exact hw
  · exact all_rep n z e
theorem all_bot (hw : Okk k w) (n : Nat) : AllK k (botK k w n) := fun z hz => by
  rcases List.mem_append.mp hz with e | e
  · exact all_rep n z e
  · rw [List.mem_singleton.mp e]; exact hw
theorem std_top (hg : k.good) (hw : Okk k w) (hc : crK k w ≤ 60) {n : Nat} (hn : n < 8) : StdK k (topK k w n) := by
  refine ⟨(fun e => nomatch e), ?_, all_top hw n, by rw [whole_top hg hw]; exact hc⟩
  unfold topK
  rw [List.length_cons, List.length_replicate]
  omega
theorem std_bot (hg : k.good) (hw : Okk k w) (hc : crK k w ≤ 60) {n : Nat} (hn : n < 8) : StdK k (botK k w n) := by
  refine ⟨fun e => by simp [botK] at e, ?_, all_bot hw n, by rw [whole_bot hg hw]; exact hc⟩
  unfold botK
  rw [List.length_append, List.length_replicate]
  show n + 1 ≤ 8
  omega
theorem len_top (n : Nat) : (topK k w n).length = n + 1 := by
  unfold topK
  rw [List.length_cons, List.length_replicate]
theorem len_bot (n : Nat) : (botK k w n).length = n + 1 := by
  unfold botK
  rw [List.length_append, List.length_replicate]
  rfl
theorem turn_len : (turnK k xs).length = xs.length := by
  unfold turnK
  rw [List.length_map, List.length_reverse]
theorem turn_all (hg : k.good) (h : AllK k xs) : AllK k (turnK k xs) := fun z hz => by
  obtain ⟨x, hx, rfl⟩ := List.mem_map.mp hz
  exact (h x (List.mem_reverse.mp hx)).opp hg
theorem turn_whole (hg : k.good) (h : AllK k xs) : wholeK k (turnK k xs) = oppK k (wholeK k xs) := by
  rw [wholeK_eq hg, wholeK_eq hg]
  exact whole_turn (S := sysK k hg) (h.ok hg)
theorem cr_opp (hg : k.good) (hw : Okk k w) : crK k (oppK k w) = crK k w := len_inv (S := sysK k hg) hw
theorem turn_std (hg : k.good) (h : StdK k xs) : StdK k (turnK k xs) := by
  refine ⟨fun e => h.ne (List.eq_nil_of_length_eq_zero (by rw [← turn_len (k := k), e]; rfl)), by rw [turn_len]; exact h.len, turn_all hg h.all, ?_⟩
  rw [turn_whole hg h.all, cr_opp hg (wholeK_ok hg h.all)]
  exact h.cr
theorem turn_top (hg : k.good) (w : List Int) (n : Nat) : turnK k (topK k w n) = botK k (oppK k w) n := by
  unfold turnK topK botK
  rw [List.reverse_cons, List.map_append, List.reverse_replicate, List.map_replicate, opp_start hg]
  rfl
theorem turn_bot (hg : k.good) (w : List Int) (n : Nat) : turnK k (botK k w n) = topK k (oppK k w) n := by
  unfold turnK topK botK
  rw [List.reverse_append, List.map_append, List.reverse_replicate, List.map_replicate, opp_start hg]
  rfl
/-- the deed that deeds_up takes -/
def nextK (k : Kd) (xs : List (List Int)) (s : Nat) : Deed := ⟨lastK k xs - 1, !fallK k (gL xs (lastK k xs - 1)) s, s⟩
theorem next_fit (hne : xs ≠ []) (h0 : 0 < lastK k xs) (hs : s ∈ headsK k (gL xs (lastK k xs))) : Fit k xs (nextK k xs s) := by
  have hl := lastK_lt (k := k) hne
  obtain ⟨h1, h2⟩ := List.mem_filter.mp hs
  have e : lastK k xs - 1 + 1 = lastK k xs := by omega
  refine ⟨?_, List.mem_range.mp h1, fun _ => ?_, fun h => ?_⟩
  · show lastK k xs - 1 + 1 < xs.length
    omega
  · show headK k (gL xs (lastK k xs - 1 + 1)) s = true
    rw [e]; exact h2
  · have h : (!fallK k (gL xs (lastK k xs - 1)) s) = false := h
    show fallK k (gL xs (lastK k xs - 1)) s = true
    simpa using h
theorem next_lup (hg : k.good) (h : AllK k xs) (hne : xs ≠ []) (h0 : 0 < lastK k xs) (hs : s ∈ headsK k (gL xs (lastK k xs))) : lupK k xs (nextK k xs s) = true := by
  have hf := next_fit hne h0 hs
  have hl := lastK_lt (k := k) hne
  obtain ⟨h1, h2⟩ := List.mem_filter.mp hs
  have e : lastK k xs - 1 + 1 = lastK k xs := by omega
  have okl := h _ (gL_in hl)
  have hh : headK k (gL xs (lastK k xs - 1 + 1)) s = true := by rw [e]; exact h2
  unfold lupK
  by_cases c : fallK k (gL xs (lastK k xs - 1)) s = true
  · have cu : (nextK k xs s).up = false := by show (!fallK k (gL xs (lastK k xs - 1)) s) = false; rw [c]; rfl
    rw [if_neg (by rw [cu]; exact Bool.false_ne_true), if_neg (by show ¬ headK k (gL xs (lastK k xs - 1 + 1)) s = false; rw [hh]; exact fun z => nomatch z), rest_eq hg h hf]
    show (!headK k (wholeK k (aheadK k (gL xs (lastK k xs - 1 + 1)) s :: xs.drop (lastK k xs - 1 + 2))) s) = true
    rw [show lastK k xs - 1 + 2 = lastK k xs + 1 by omega, lastK_rest hne, e, wholeK_cons hg, wholeK_eq hg]
    have e2 : whole (sysK k hg) (List.replicate (xs.length - 1 - lastK k xs) k.start) = k.start := whole_rep (S := sysK k hg) _
    rw [e2, starK_eq hg]
    have e3 : star (sysK k hg) (aheadK k (gL xs (lastK k xs)) s) k.start = aheadK k (gL xs (lastK k xs)) s := star_e (S := sysK k hg) (okl.ahead hg (List.mem_range.mp h1))
    rw [e3]
    have e4 : headK k (aheadK k (gL xs (lastK k xs)) s) s = !headK k (gL xs (lastK k xs)) s := head_L (S := sysK k hg) okl (List.mem_range.mp h1)
    rw [e4, Bool.not_not]
    exact h2
  · have cf : fallK k (gL xs (lastK k xs - 1)) s = false := by simpa using c
    have cu : (nextK k xs s).up = true := by show (!fallK k (gL xs (lastK k xs - 1)) s) = true; rw [cf]; rfl
    rw [if_pos cu]
    show (!fallK k (gL xs (lastK k xs - 1)) s) = true
    rw [cf]; rfl
theorem heads_some (hg : k.good) (hx : Okk k x) (h : x ≠ k.start) : headsK k x ≠ [] := by
  obtain ⟨s, h1, h2⟩ := some_head (S := sysK k hg) hx h
  have h3 : s ∈ headsK k x := List.mem_filter.mpr ⟨List.mem_range.mpr h1, h2⟩
  exact List.ne_nil_of_mem h3
/-- where a standing is not the uppermost one, a deed leads up -/
theorem lup_some (hg : k.good) (h : AllK k xs) (hne : xs ≠ []) (h0 : 0 < htK k xs) : ∃ d, d ∈ deedsK k xs ∧ lupK k xs d = true := by
  have h1 : 0 < lastK k xs := by
    rcases Nat.eq_zero_or_pos (lastK k xs) with z | z
    · have e := last_zero hg h hne z
      rw [e, ht_top hg (wholeK_ok hg h)] at h0
      exact absurd h0 (Nat.lt_irrefl 0)
    · exact z
  have h2 := heads_some hg (h _ (gL_in (lastK_lt (k := k) hne))) (lastAt_ne (xs.length - 1) h1)
  obtain ⟨s, hs⟩ := List.exists_mem_of_ne_nil _ h2
  exact ⟨nextK k xs s, fit_deeds (next_fit hne h1 hs), next_lup hg h hne h1 hs⟩
/-- deeds that lead up, as few as can be -/
def UpK (k : Kd) (xs : List (List Int)) (ds : List Deed) : Prop := LeadsK k xs ds (topK k (wholeK k xs) (xs.length - 1)) ∧ ds.length = htK k xs
theorem up_top (hg : k.good) (hw : Okk k w) {n : Nat} (h : UpK k (topK k w n) ds) : ds = [] := by
  have h1 := h.2
  rw [ht_top hg hw] at h1
  exact List.eq_nil_of_length_eq_zero h1
/-- on a way of fewest deeds from the lowermost standing up -/
theorem up_right (hg : k.good) (hw : Okk k w) {n : Nat} (h : UpK k (botK k w n) ds) (i : Nat) (hi : i < n) (b : Bool) : (sel i b ds).length = crK k w ∧ (sel i b ds).foldl (byK k) k.start = w ∧ ∀ s, s ∈ sel i b ds → s < k.steps := by
  obtain ⟨⟨_, h1⟩, h2⟩ := h
  rw [whole_bot hg hw, len_bot, Nat.add_sub_cancel] at h1
  rw [ht_bot hg hw] at h2
  exact way_right (S := sysK k hg) hw h1 h2 i hi b
end
end CX
end
section
set_option Elab.async false
set_option linter.all false
set_option maxRecDepth 100000
set_option maxHeartbeats 4000000
set_option autoImplicit false
/-! in; comprehensions with other targets; lists whose items stand at unlike places; a local dict; pairs. -/
namespace SL
open PySem PySem.Spec PyProof.Rows L2
/-- lists whose items stand at unlike places -/
def jLd {α : Type} (R : RP α) : RP (List α) := ⟨fun H v xs => ∃ a vs, v = .ref a ∧ H a = some (.lst vs) ∧ Paired (R.r H) vs xs ∧ vs.Nodup, fun e ⟨a, vs, h1, h2, h3, h4⟩ => ⟨a, vs, h1, e _ _ h2, paired_mono (fun _ _ q => R.mono e q) h3, h4⟩⟩
theorem jLd_L {α : Type} {R : RP α} {H : Hp} {v : V} {xs : List α} (h : (jLd R).r H v xs) : (jL R).r H v xs := by
  obtain ⟨a, vs, h1, h2, h3, _⟩ := h
  exact ⟨a, vs, h1, h2, h3⟩
theorem inV_nat (s : Nat) (xs : List Nat) : inV (.int (s : Int)) (xs.map fun (n : Nat) => V.int (n : Int)) = decide (s ∈ xs) := by
  induction xs with
  | nil => rfl
  | cons x xs ih =>
    have e : inV (.int (s : Int)) ((x :: xs).map fun (n : Nat) => V.int (n : Int)) = (eqV (.int (x : Int)) (.int (s : Int)) || inV (.int (s : Int)) (xs.map fun (n : Nat) => V.int (n : Int))) := rfl
    rw [e, ih]
    have e2 : eqV (.int (x : Int)) (.int (s : Int)) = decide (x = s) := by
      show ((x : Int) == (s : Int)) = _
      by_cases c : x = s
      · rw [c, decide_eq_true rfl]; exact beq_self_eq_true _
      · rw [decide_eq_false c]
        exact beq_eq_false_iff_ne.mpr fun z => c (Int.ofNat.inj z)
    rw [e2]
    by_cases c : x = s
    · rw [c]; simp
    · have : ¬ s = x := fun z => c z.symm
      simp [c, this]
section
variable {K : PySem.W.Frag} {σ : L2.St} {H H' H0 : Hp} {ta tb tc td te tl : TE} {tt tu : TT} {x y z v : V} {P P' P1 P2 P3 : V → Hp → Prop} {D : Ends} {ts tw tz : TS} {i j : Nat} {C : Addr} {k : CX.Kd} {α β γ δ ε : Type} {R : RP α} {S : RP β} {vs : List Nat}
/-- step in steps -/
theorem et_inN {xs : List Nat} {s : Nat} (ha : Ev ta σ H (Eqv (.int s))) (hb : Ev tb σ H (Is (jL jN) xs)) : EvT (tTest (tOp (rIn K false) ta tb)) σ H (decide (s ∈ xs)) :=
  et_test (ev_opG ha hb fun u w H1 _ p1 ⟨a, ws, e1, h2, h3⟩ Q q => by
    cases p1
    subst e1
    have e := paired_nat h3
    rw [List.map_map] at e
    have e : ws = xs.map fun (n : Nat) => V.int (n : Int) := e
    refine ⟨a, ws, rfl, .inl (.inl (.inl h2)), rfl, ?_, ?_⟩
    · rw [e, List.all_map]
      exact List.all_eq_true.mpr fun _ _ => rfl
    · show Q (.bl (inV (.int (s : Int)) ws)) H1
      rw [e, inV_nat]
      exact q _ H1 (Evl.Ex.refl H1) rfl)
/-- [e for g in xs if t], whatever the target -/
theorem ev_lcG {g : TG} {xs : List α} (st : V → α → L2.St) (f : α → Bool) (h' : α → β) (h : Ev tl σ H (Is (jL R) xs)) (hz : xs.length ≤ 40000) (hg : ∀ (x : α) (v : V) (H3 : Hp) (k : L2.St → Hp → Prop), R.r H3 v x → k (st v x) H3 → g v (wipe σ vs) H3 k) (hw : ∀ v x, wipe (st v x) vs = wipe σ vs)
    (ht : ∀ (i : Nat) (x : α) (v : V) (H3 : Hp), Ex H H3 → xs[i]? = some x → R.r H3 v x → EvT tt (st v x) H3 (f x))
    (he : ∀ (i : Nat) (x : α) (v : V) (H3 : Hp), Ex H H3 → xs[i]? = some x → R.r H3 v x → f x = true → Ev te (st v x) H3 (Nu S H3 (h' x))) :
    Ev (tLc (iList K tl) g tt te vs) σ H (Nu (jL S) H ((xs.filter f).map h')) := fun H0 e0 Q q => h H0 e0 _ fun v H1 e1 ⟨a, ws, ev, ha, hp⟩ => by
  subst ev
  refine ⟨a, rfl, ⟨ws, .inl (.inl ha)⟩, fun Dl hD => ?_⟩
  refine lc_list (xs := ws) (fun i H' => Ex H1 H' ∧ Cw S H Dl H' (((xs.take i).filter f).map h')) ⟨Evl.Ex.new hD, Cw.nil⟩ (fun i H' _ p => .inl (.inl (p.1 _ _ ha))) (fun i w H' hi p => ?_) (fun H' p => ?_)
  · obtain ⟨x, hx, rx⟩ := paired_get hp hi
    have e' := (e0.trans e1).trans p.1
    have rx' := R.mono p.1 rx
    refine hg x w H' _ rx' ⟨hw w x, ?_⟩
    have hne : H' Dl ≠ none := by
      obtain ⟨acc, c1, _⟩ := p.2
      rw [c1]; exact fun z => nomatch z
    have t2 := ht i x w H' e' hx rx'
    refine t2 H' (Evl.Ex.refl H') _ fun H3 e3 => ?_
    cases hf : f x with
    | true =>
      refine L2.iteT (he i x w H' e' hx rx' hf H3 e3 _ fun y H4 e4 py => ?_)
      obtain ⟨acc, c1, c2⟩ := p.2.mono (e3.trans e4)
      have hl := paired_len c2
      refine ⟨acc, c1, Evl.sz_lt ?_, ex_upd ((p.1.trans e3).trans e4) hD, ?_⟩
      · have h1 : (((xs.take i).filter f).map h').length ≤ xs.length := by
          rw [List.length_map]
          exact Nat.le_trans (List.length_filter_le _ _) (by rw [List.length_take]; omega)
        omega
      · rw [take_filter_yes hx hf]
        exact Cw.put c1 c2 (S.mono (nw_of e' hne) py)
    | false =>
      refine L2.iteF ⟨p.1.trans e3, ?_⟩
      rw [take_filter_no hx hf]
      exact p.2.mono e3
  · have hl := paired_len hp
    have c := p.2
    rw [hl, List.take_length] at c
    exact q _ H' (e1.trans p.1) (c.done (fresh0 (e0.trans e1) hD))
theorem paired_mem {F : V → α → Prop} : ∀ {ws : List V} {xs : List α} {w : V}, Paired F ws xs → w ∈ ws → ∃ x, F w x
  | _, _, _, .cons r t, h => by
    rcases List.mem_cons.mp h with e | e
    · exact ⟨_, e ▸ r⟩
    · exact paired_mem t e
/-- [e for x in xs], each a new list of ints -/
theorem ev_lcN {xs : List α} (g : α → List Int) (h : Ev tl σ H (Is (jL R) xs)) (hz : xs.length ≤ 40000) (hw : ∀ x, wipe ((wipe σ vs).set j (some x)) vs = wipe σ vs)
    (he : ∀ (i : Nat) (x : α) (v : V) (H3 : Hp), Ex H H3 → xs[i]? = some x → R.r H3 v x → Ev te ((wipe σ vs).set j (some v)) H3 (Nu jLI H3 (g x))) :
    Ev (tLc (iList K tl) (gName j) tYes te vs) σ H (Nu (jLd jLI) H (xs.map g)) := fun H0 e0 Q q => h H0 e0 _ fun v H1 e1 ⟨a, ws, ev, ha, hp⟩ => by
  subst ev
  refine ⟨a, rfl, ⟨ws, .inl (.inl ha)⟩, fun Dl hD => ?_⟩
  refine lc_list (xs := ws) (fun i H' => Ex H1 H' ∧ ∃ acc, H' Dl = some (.lst acc) ∧ Paired (jLI.r (nw H Dl H')) acc ((xs.take i).map g) ∧ acc.Nodup) ⟨Evl.Ex.new hD, [], upd_same, .nil, List.nodup_nil⟩ (fun i H' _ p => .inl (.inl (p.1 _ _ ha))) (fun i w H' hi p => ⟨hw w, ?_⟩) (fun H' p => ?_)
  · obtain ⟨x, hx, rx⟩ := paired_get hp hi
    have e' := (e0.trans e1).trans p.1
    have rx' := R.mono p.1 rx
    obtain ⟨p1, acc, c1, c2, c3⟩ := p
    have hne : H' Dl ≠ none := by
      rw [c1]; exact fun z => nomatch z
    refine he i x w H' e' hx rx' H' (Evl.Ex.refl H') _ fun y H4 e4 py => ?_
    have hl := paired_len c2
    refine ⟨acc, e4 _ _ c1, Evl.sz_lt ?_, ex_upd (p1.trans e4) hD, acc ++ [y], upd_same, ?_, ?_⟩
    · have h1 : ((xs.take i).map g).length ≤ xs.length := by
        rw [List.length_map, List.length_take]; omega
      omega
    · have et : (xs.take (i + 1)).map g = (xs.take i).map g ++ [g x] := by
        rw [List.take_add_one, hx, List.map_append]; rfl
      rw [et]
      exact paired_snoc (paired_mono (fun _ _ p => jLI.mono ((nw_mono e4).trans nw_upd) p) c2) (jLI.mono ((nw_of e' hne).trans nw_upd) py)
    · refine List.nodup_append.mpr ⟨c3, by simp, fun u hu w2 hw2 e => ?_⟩
      rw [List.mem_singleton] at hw2
      subst hw2
      subst e
      obtain ⟨z, pz, ez, hz⟩ := paired_mem c2 hu
      obtain ⟨b, eb, hb⟩ := py
      rw [ez] at eb
      cases eb
      have h1 := (nw_some hz).2.2
      have h2 := (newOf_some hb).1
      rw [h1] at h2
      cases h2
  · obtain ⟨p1, acc, c1, c2, c3⟩ := p
    have hl := paired_len hp
    rw [hl, List.take_length] at c2
    refine q _ H' (e1.trans p1) ⟨Dl, acc, rfl, ?_, paired_mono (fun _ _ p => jLI.mono nw_new p) c2, c3⟩
    rw [newOf_at (fresh0 (e0.trans e1) hD)]
    exact c1
end
/-! a dict of two texts -/
def otherK : List (Key × V) := [(.inr "lower", .str "upper"), (.inr "upper", .str "lower")]
theorem other_get (b : Bool) : valV otherK (.inr (sdS b)) = some (V.str (sdS !b)) := by
  cases b with
  | true => exact (valV_neg (by decide)).trans (valV_pos rfl)
  | false => exact valV_pos rfl
section
variable {K : PySem.W.Frag} {σ : L2.St} {H H' H0 : Hp} {ta tb te : TE} {i : Nat}
theorem ev_other : Ev (tDisp [(tC (.str "lower"), tC (.str "upper")), (tC (.str "upper"), tC (.str "lower"))]) σ H (fun v H1 => ∃ p, v = .ref p ∧ H1 p = some (.dK otherK)) := fun H1 e1 Q q p hp =>
  ⟨upd_same, [(.inr "lower", .str "upper"), (.inr "upper", .str "lower")], rfl, by decide, by
    have e : mergeK [] [((.inr "lower" : Key), V.str "upper"), (.inr "upper", .str "lower")] = otherK := rfl
    rw [e, L2.upd_upd]
    exact q _ _ (Evl.Ex.new hp) ⟨p, rfl, upd_same⟩⟩
theorem ev_oget {p : Addr} {b : Bool} (h : H p = some (.dK otherK)) (ha : Ev ta σ H (Eqv (.ref p))) (hb : Ev tb σ H (Eqv (.str (sdS b)))) : Ev (tDGet ta tb) σ H (Eqv (.str (sdS !b))) := fun H1 e1 Q q =>
  ha H1 e1 _ fun u H2 e2 p1 => hb H2 (e1.trans e2) _ fun w H3 e3 p2 => by
    cases p1; cases p2
    have g := DGet.k (k := .inr (sdS b)) (((e1.trans e2).trans e3) _ _ h)
    rw [other_get] at g
    exact ⟨p, _, rfl, g, q _ H3 (e2.trans e3) rfl⟩
end
end SL
end
section
set_option Elab.async false
set_option linter.all false
set_option maxRecDepth 100000
set_option maxHeartbeats 4000000
set_option autoImplicit false
/-! Sums and turns of lists of which a property is known; sums of lists whose items stand at unlike places. -/
namespace SL
open PySem PySem.Spec PyProof.Rows L2
section
variable {K : PySem.W.Frag} {σ : L2.St} {H H' H0 : Hp} {ta tb tc td te tl : TE} {tt tu : TT} {x y z v : V} {P P' P1 P2 P3 : V → Hp → Prop} {D : Ends} {ts tw tz : TS} {i j : Nat} {C : Addr} {k : CX.Kd} {α β γ δ ε : Type} {R : RP α} {S : RP β} {vs : List Nat}
theorem R1_of {xs : List α} (h : (jL R).r (newOf H0 H) v xs) : (jL R).r H v xs := (jL R).mono newOf_ex h
theorem ev_catE {p1 p2 : List α → Prop} (e0 : Ex H0 H) (h1 : Ev ta σ H (NuE (jL R) H0 p1)) (h2 : Ev tb σ H (NuE (jL R) H0 p2)) (hz : ∀ a b, p1 a → p2 b → a.length + b.length ≤ 100000) : Ev (tOp rCat ta tb) σ H (NuE (jL R) H0 (fun r => ∃ a b, p1 a ∧ p2 b ∧ r = a ++ b)) :=
  ev_opG h1 h2 fun u w H1 e ⟨xs, q1, a, ws, ea, ha, hp⟩ ⟨ys, q2, b, us, eb, hb, hq⟩ Q q => by
    subst ea eb
    refine ⟨a, b, ws, us, rfl, rfl, newOf_ex _ _ ha, newOf_ex _ _ hb, Evl.sz_of (by rw [paired_len hp, paired_len hq]; exact hz _ _ q1 q2), fun p hn => q _ _ (Evl.Ex.new hn) ⟨xs ++ ys, ⟨xs, ys, q1, q2, rfl⟩, p, _, rfl, newOf_new (e0.trans e) hn, ?_⟩⟩
    exact paired_app (paired_mono (fun _ _ z => R.mono (newOf_upd hn) z) hp) (paired_mono (fun _ _ z => R.mono (newOf_upd hn) z) hq)
theorem ev_revE {p : List α → Prop} (h : Ev te σ H (NuE (jL R) H p)) : Ev (tRevL K te) σ H (NuE (jL R) H (fun r => ∃ a, p a ∧ r = a.reverse)) := fun H1 e1 Q q =>
  h H1 e1 _ fun v H2 e2 ⟨xs, px, a, ws, ev, ha, hp⟩ => by
    subst ev
    exact ⟨a, ws, rfl, .inl (.inl (newOf_ex _ _ ha)), fun p hn => q _ _ (e2.trans (Evl.Ex.new hn)) ⟨xs.reverse, ⟨xs, px, rfl⟩, p, _, rfl, newOf_new (e1.trans e2) hn, paired_rev (paired_mono (fun _ _ z => R.mono (newOf_upd hn) z) hp)⟩⟩
/-- a comprehension over a list of which a property is known -/
theorem ev_lcE {g : TG} {p : List α → Prop} {st : V → α → L2.St} (f : α → β) (h : Ev tl σ H (NuE (jL R) H p)) (hz : ∀ r, p r → r.length ≤ 40000) (hg : ∀ (x : α) (v : V) (H3 : Hp) (k : L2.St → Hp → Prop), R.r H3 v x → k (st v x) H3 → g v (wipe σ vs) H3 k) (hw : ∀ v x, wipe (st v x) vs = wipe σ vs)
    (he : ∀ r, p r → ∀ (i : Nat) (x : α) (v : V) (H3 : Hp), Ex H H3 → r[i]? = some x → R.r H3 v x → Ev te (st v x) H3 (Nu S H3 (f x))) :
    Ev (tLc (iList K tl) g tYes te vs) σ H (NuE (jL S) H (fun r => ∃ a, p a ∧ r = a.map f)) := fun H0 e0 Q q => h H0 e0 _ fun v H1 e1 ⟨xs, px, hv⟩ => by
  obtain ⟨a, ws, ev, ha, hp⟩ := R1_of hv
  subst ev
  refine ⟨a, rfl, ⟨ws, .inl (.inl ha)⟩, fun Dl hD => ?_⟩
  refine lc_list (xs := ws) (fun i H' => Ex H1 H' ∧ Cw S H Dl H' ((xs.take i).map f)) ⟨Evl.Ex.new hD, Cw.nil⟩ (fun i H' _ p => .inl (.inl (p.1 _ _ ha))) (fun i w H' hi p => ?_) (fun H' p => ?_)
  · obtain ⟨x, hx, rx⟩ := paired_get hp hi
    have e' := (e0.trans e1).trans p.1
    have rx' := R.mono p.1 rx
    refine hg x w H' _ rx' ⟨hw w x, ?_⟩
    have hne : H' Dl ≠ none := by
      obtain ⟨acc, c1, _⟩ := p.2
      rw [c1]; exact fun z => nomatch z
    refine he xs px i x w H' e' hx rx' H' (Evl.Ex.refl H') _ fun y H4 e4 py => ?_
    obtain ⟨acc, c1, c2⟩ := p.2.mono e4
    have hl := paired_len c2
    have hzz := hz xs px
    refine ⟨acc, c1, Evl.sz_lt ?_, ex_upd (p.1.trans e4) hD, ?_⟩
    · have h1 : ((xs.take i).map f).length ≤ xs.length := by
        rw [List.length_map, List.length_take]; omega
      omega
    · have et : (xs.take (i + 1)).map f = (xs.take i).map f ++ [f x] := by
        rw [List.take_add_one, hx, List.map_append]; rfl
      rw [et]
      exact Cw.put c1 c2 (S.mono (nw_of e' hne) py)
  · have hl := paired_len hp
    have c := p.2
    rw [hl, List.take_length] at c
    exact q _ H' (e1.trans p.1) ⟨_, ⟨xs, px, rfl⟩, c.done (fresh0 (e0.trans e1) hD)⟩
/-- [a list of ints] -/
theorem ev_oneD {x : List Int} (h : Ev te σ H (Nu jLI H x)) : Ev (tLst (tCons te tNil)) σ H (Nu (jLd jLI) H [x]) :=
  ev_lst (ea_1 h) (fun vs H1 ⟨v, e, _⟩ => by rw [e]; show 1 ≤ 100000; decide) fun vs H1 p e ⟨v, ev, p1⟩ hn => by
    subst ev
    exact ⟨p, [v], rfl, newOf_new e hn, .cons (jLI.mono (newOf_upd hn) p1) .nil, by simp⟩
/-- xs + ys, the items of which stand at unlike places -/
theorem ev_catD {xs ys : List (List Int)} (h1 : Ev ta σ H (Nu (jLd jLI) H xs)) (h2 : ∀ H1, Ex H H1 → Ev tb σ H1 (Nu (jLd jLI) H1 ys)) (hz : xs.length + ys.length ≤ 100000) : Ev (tOp rCat ta tb) σ H (Nu (jLd jLI) H (xs ++ ys)) := fun H1 e1 Q q =>
  h1 H1 e1 _ fun u H2 e2 ⟨a, ws, ea, ha, hp, hn1⟩ => h2 H2 (e1.trans e2) H2 (Evl.Ex.refl H2) _ fun w H3 e3 ⟨b, us, eb, hb, hq, hn2⟩ => by
    subst ea eb
    refine ⟨a, b, ws, us, rfl, rfl, e3 _ _ (newOf_ex _ _ ha), newOf_ex _ _ hb, Evl.sz_of (by rw [paired_len hp, paired_len hq]; exact hz), fun p hn => q _ _ ((e2.trans e3).trans (Evl.Ex.new hn)) ⟨p, _, rfl, newOf_new ((e1.trans e2).trans e3) hn, ?_, ?_⟩⟩
    · exact paired_app (paired_mono (fun _ _ z => jLI.mono ((newOf_mono e3).trans (newOf_upd hn)) z) hp) (paired_mono (fun _ _ z => jLI.mono ((newOf_back (e1.trans e2)).trans (newOf_upd hn)) z) hq)
    · refine List.nodup_append.mpr ⟨hn1, hn2, fun x hx y hy e => ?_⟩
      subst e
      obtain ⟨_, c, ec, hc⟩ := paired_mem hp hx
      obtain ⟨_, d, ed, hd⟩ := paired_mem hq hy
      rw [ec] at ed
      cases ed
      have h3 := (newOf_some hc).2
      rw [(newOf_some hd).1] at h3
      cases h3
theorem Nu.jL {xs : List α} (h : Nu (jLd R) H0 xs v H) : Nu (jL R) H0 xs v H := jLd_L h
end
end SL
end
section
set_option Elab.async false
set_option linter.all false
set_option maxRecDepth 100000
set_option maxHeartbeats 4000000
set_option autoImplicit false
namespace SL
open PySem PySem.Spec PyProof.Rows L2
section
variable {P : Program} {w : World} {K : PySem.W.Frag} {mg : Str → Option Value} {base : Heap} {C : Addr}

theorem UpK_seam {k : CX.Kd} {xs : List (List Int)} {ds : List CX.Deed} (h : CX.UpK k xs ds) : ∀ d, d ∈ ds → d.seam + 1 < xs.length := by
  obtain ⟨⟨_, h⟩, _⟩ := h
  exact h.seam
/-! ### joining -/
abbrev spJo (C : Addr) : Sp := sp3 (jK C) jLL jLL jB (fun k xs ys => preX k xs ∧ preX k ys) (fun k xs ys r => r = decide (CX.wholeK k xs = CX.wholeK k ys))
theorem c_are_joined (T : Tp K mg C) (D : Dfn K mg "are_joined" s_are_joined) (c_whole_of : Cal P w K mg base 7 "whole_of" p_whole_of (spWo C)) : Cal P w K mg base 8 "are_joined" p_are_joined (spJo C) := by
  refine cal_mk D sc_are_joined (fun _ _ _ _ h => len3 h) (fun _ _ _ _ _ _ us hl => match us, hl with | [_, _, _], _ => rfl) (fun f cdv A outer s H vs Q E hr h => ?_)
  obtain ⟨v1, v2, v3, k, xs, ys, rfl, hk, hx, hy, ⟨hp, hp2⟩, q⟩ := h
  have hr' := hr
  refine ⟨_, (pss_one (ps_ret (pe_cmpR (op_eqD hr.units) (pe_cal c_whole_of hr' (by rfl) (pa_cons (pv 0) (pa_cons (pv 1) pa_nil))) (pe_cal c_whole_of hr' (by rfl) (pa_cons (pv 0) (pa_cons (pv 2) pa_nil))) (nomark _)))), ?_⟩
  exact s_ret (ev_eqD encLI (isN (ev_c2 (ev_var rfl hk) (ev_var rfl hx) hp)) (isN (ev_c2 (ev_var rfl hk) (ev_var rfl hy) hp2))) fun v H1 e1 p => q v H1 _ e1 rfl p
abbrev spLl (C : Addr) : Sp := sp2 (jK C) jLL jN (fun k xs => k.good ∧ xs ≠ [] ∧ xs.length ≤ 100) (fun k xs r => r = CX.lastK k xs)
theorem c_last_layer (T : Tp K mg C) (D : Dfn K mg "last_layer" s_last_layer) (m_start : Mt P w K mg base C 1 "start" (spStart C)) : Cal P w K mg base 2 "last_layer" p_last_layer (spLl C) := by
  refine cal_mk D sc_last_layer (fun _ _ _ _ h => len2 h) (fun _ _ _ _ _ _ us hl => match us, hl with | [_, _], _ => rfl) (fun f cdv A outer s H vs Q E hr h => ?_)
  obtain ⟨v1, v2, k, xs, rfl, hk, hx, ⟨hg, hne, hz⟩, q⟩ := h
  have hpos := List.length_pos_iff.mpr hne
  have hr' := hr
  refine ⟨_, (pss_cons (ps_set (i := 2) sc_last_layer.nd rfl (.inl rfl) (pe_op op_sub (pe_callB call_len_seq (by rfl) T.len (by decide +kernel) (pa_cons (pv 1) pa_nil)) pe_int))
      (pss_cons (ps_while PassesOwn.never (PW.pt (pw_and (pt_cmpR op_gt (pv 2) pe_int (nomark _)) (pw_and1 (pt_cmpR (op_eqD hr.units) (pe_ix ix_list (pv 1) (pv 2) (fun _ _ => rfl)) (pe_mt m_start T.cl hr' (pv 0)) (nomark _))))) (pss_one (ps_set (i := 2) sc_last_layer.nd rfl (.inl rfl) (pe_op op_sub (pv 2) pe_int))))
      (pss_one (ps_ret (pv 2))))), ?_⟩
  refine q_set ((ev_i0 (ev_lenL lenR (ev_var rfl hx)) ev_c).eq (u := .int ((xs.length - 1 : Nat) : Int)) (congrArg V.int (by omega))) fun v H1 e1 p1 => ?_
  cases p1
  refine q_while (fun m σ' H' => σ' = [some v1, some v2, some (.int (m : Int))] ∧ Ex H H' ∧ CX.lastAt k xs m = CX.lastK k xs ∧ m < xs.length) (xs.length - 1) ⟨rfl, e1, rfl, by omega⟩ fun m σ' H' pv => ?_
  obtain ⟨rfl, ee, hl, hm⟩ := pv
  have hk' := (jK C).mono ee hk
  have hx' := jLL.mono ee hx
  cases m with
  | zero =>
    refine ⟨false, et_and0 ((et_i (ev_v rfl) ev_c).eq (by decide)), (fun e => nomatch e), fun _ H2 e2 => ?_⟩
    exact s_ret (ev_v rfl) fun v H3 e3 p => by
      cases p
      exact q _ H3 _ ((ee.trans e2).trans e3) hl rfl
  | succ m =>
    refine ⟨decide (CX.gL xs (m + 1) = k.start), et_and1 ((et_i (ev_v rfl) ev_c).eq (decide_eq_true (by omega))) (et_test (ev_eqD encLI (ev_ixL (j := m + 1) (ev_var rfl hx') (ev_v rfl) rfl (gL_some hm)) (ev_start (ev_var rfl hk') hg).is)), fun hb H2 e2 => ?_, fun hb H2 e2 => ?_⟩
    · refine ⟨_, fun _ _ h => h, s_set ((ev_i0 (ev_v rfl) ev_c).eq (u := .int (m : Int)) (congrArg V.int (by omega))) fun v H3 e3 p => ?_⟩
      cases p
      refine ⟨m, Nat.lt_succ_self m, rfl, (ee.trans e2).trans e3, ?_, by omega⟩
      rw [← hl]
      show _ = if CX.gL xs (m + 1) = k.start then CX.lastAt k xs m else m + 1
      rw [if_pos (of_decide_eq_true hb)]
    · refine s_ret (ev_v rfl) fun v H3 e3 p => ?_
      cases p
      refine q _ H3 (m + 1) ((ee.trans e2).trans e3) ?_ rfl
      show m + 1 = CX.lastK k xs
      rw [← hl]
      show _ = if CX.gL xs (m + 1) = k.start then CX.lastAt k xs m else m + 1
      rw [if_neg (of_decide_eq_false hb)]
abbrev spDu (C : Addr) : Sp := sp2 (jK C) jLL (jL jD) preX (fun k xs r => CX.UpK k xs r)
theorem c_deeds_up (T : Tp K mg C) (D : Dfn K mg "deeds_up" s_deeds_up) (c_copied : Cal P w K mg base 1 "copied" p_copied (spCp C)) (c_last_layer : Cal P w K mg base 2 "last_layer" p_last_layer (spLl C)) (c_falls_of : Cal P w K mg base 3 "falls_of" p_falls_of (spFalls C)) (c_heads_of : Cal P w K mg base 4 "heads_of" p_heads_of (spHeads C)) (c_behind_deed : Cal P w K mg base 5 "behind_deed" p_behind_deed (spBd C)) : Cal P w K mg base 6 "deeds_up" p_deeds_up (spDu C) := by
  refine cal_mk D sc_deeds_up (fun _ _ _ _ h => len2 h) (fun _ _ _ _ _ _ us hl => match us, hl with | [_, _], _ => rfl) (fun f cdv A outer s H vs Q E hr h => ?_)
  obtain ⟨v1, v2, k, xs, rfl, hk, hx, ⟨hg, hs⟩, q⟩ := h
  have hlen := hs.len
  refine ⟨_, (pss_cons (ps_par (i := 2) (j := 3) (by rfl) sc_deeds_up.nd rfl rfl (by decide) rfl rfl (pa_cons (pe_lst pa_nil) (pa_cons (pe_cal c_copied (hr.mono (by decide)) (by rfl) (pa_cons (pv 1) pa_nil)) pa_nil)) (by rfl))
      (pss_cons (ps_set (i := 4) sc_deeds_up.nd rfl (.inl rfl) (pe_cal c_last_layer (hr.mono (by decide)) (by rfl) (pa_cons (pv 0) (pa_cons (pv 3) pa_nil))))
      (pss_cons (ps_while PassesOwn.never (pt_cmpR op_gt (pv 4) pe_int (nomark _)) (pss_cons (ps_set (i := 5) sc_deeds_up.nd rfl (.inl rfl) (pe_ix ix_list (pe_cal c_heads_of (hr.mono (by decide)) (by rfl) (pa_cons (pv 0) (pa_cons (pe_ix ix_list (pv 3) (pv 4) (fun _ _ => rfl)) pa_nil))) pe_int (fun _ _ => rfl)))
      (pss_cons (ps_set (i := 6) sc_deeds_up.nd rfl (.inl rfl) (pe_ifExp (pt_cmpR op_in_seq (pv 5) (pe_cal c_falls_of (hr.mono (by decide)) (by rfl) (pa_cons (pv 0) (pa_cons (pe_ix ix_list (pv 3) (pe_op op_sub (pv 4) pe_int) (fun _ _ => rfl)) pa_nil))) (by rfl)) pe_str pe_str))
      (pss_cons (ps_expr (pe_bm PySem.F.plainAttrs_list PySem.F.slot_list_append PySem.F.type_list_append mt_append (pv 2) (pa_cons (pe_tup (pa_cons (pe_op op_sub (pv 4) pe_int) (pa_cons (pv 6) (pa_cons (pv 5) pa_nil)))) pa_nil)))
      (pss_cons (ps_set (i := 3) sc_deeds_up.nd rfl (.inl rfl) (pe_cal c_behind_deed hr (by rfl) (pa_cons (pv 0) (pa_cons (pv 3) (pa_cons (pe_ix ix_list (pv 2) (pe_un un_neg pe_int) (fun _ _ => rfl)) pa_nil)))))
      (pss_one (ps_set (i := 4) sc_deeds_up.nd rfl (.inl rfl) (pe_cal c_last_layer (hr.mono (by decide)) (by rfl) (pa_cons (pv 0) (pa_cons (pv 3) pa_nil))))))))))
      (pss_one (ps_ret (pv 2)))))), ?_⟩
  refine q_par (P1 := Nu (jL jD) H []) (P2 := fun H1 => Nu jLL H1 xs) ev_nil (fun v H1 e1 p1 => nu1 (ev_c1 (ev_var rfl (jLL.mono e1 hx)) (by omega))) fun v w H1 H2 e1 p1 e2 p2 => ?_
  obtain ⟨p, ws0, rfl, hp1, hp2⟩ := p1
  cases hp2
  obtain ⟨hp0, hpl⟩ := newOf_some hp1
  have e12 := e1.trans e2
  have hw0 : jLL.r (wo p H2) w xs := jLL.mono (wo_new (by rw [hpl]; exact fun z => nomatch z)) p2
  refine q_set (P := Eqv (.int (CX.lastK k xs : Nat))) (nuN (ev_c2 (ev_var rfl ((jK C).mono e12 hk)) (ev_var rfl p2.is) ⟨hg, hs.ne, by omega⟩)) fun v H3 e3 p3 => ?_
  cases p3
  have e13 := e12.trans e3
  refine q_while (fun m σ' H' => ∃ (left : List (List Int)) (w : V) (ws : List V) (ds : List CX.Deed) (y z : Option V), m = CX.htK k left ∧ σ' = [some v1, some v2, some (.ref p), some w, some (.int (CX.lastK k left : Nat)), y, z] ∧ Ex H H' ∧ H' p = some (.lst ws) ∧ Paired (jD.r (nw H p H')) ws ds ∧ jLL.r (wo p H') w left ∧ CX.LeadsK k xs ds left ∧ ds.length + CX.htK k left = CX.htK k xs ∧ CX.StdK k left ∧ left.length = xs.length ∧ CX.wholeK k left = CX.wholeK k xs) (CX.htK k xs)
    ⟨xs, w, [], [], none, none, rfl, rfl, e13, e3 _ _ (e2 _ _ hpl), .nil, jLL.mono (wo_mono e3) hw0, CX.LeadsK.nil hg, Nat.zero_add _, hs, rfl, rfl⟩ fun m σ' H' pv => ?_
  obtain ⟨left, w1, ws, ds, y, z, rfl, rfl, ee, hpa, hws, hlf, hle, hsum, hst, hll, hwh⟩ := pv
  have hk' := (jK C).mono ee hk
  have hleft := jLL.mono wo_ex hlf
  have hle960 := hs.ht_le hg
  have hwl := paired_len hws
  by_cases hat : CX.lastK k left = 0
  · refine ⟨false, (et_i (ev_v rfl) ev_c).eq (decide_eq_false (by rw [hat]; exact fun z => absurd z (Int.lt_irrefl _))), (fun e => nomatch e), fun _ H4 e4 => ?_⟩
    have e0 := CX.last_zero hg hst.all hst.ne hat
    have h0 : CX.htK k left = 0 := by
      rw [e0]
      exact CX.ht_top hg (CX.wholeK_ok hg hst.all) _
    have ht : CX.UpK k xs ds := by
      refine ⟨?_, by omega⟩
      rw [← hwh, ← hll, ← e0]
      exact hle
    refine s_ret (ev_var (P := Nu (jL jD) H ds) rfl ?_) fun v5 H5 e5 p5 => q v5 H5 _ ((ee.trans e4).trans e5) ht p5
    exact jL_new hp0 (e4 _ _ hpa) (paired_mono (fun _ _ z => jD.mono ((nw_mono e4).trans nw_new) z) hws)
  · have hpos : 0 < CX.lastK k left := Nat.pos_of_ne_zero hat
    refine ⟨true, (et_i (ev_v rfl) ev_c).eq (decide_eq_true (by omega)), fun _ H4 e4 => ?_, (fun e => nomatch e)⟩
    have hlt := CX.lastK_lt (k := k) hst.ne
    have hgl := gL_some hlt
    have hgp := gL_some (xs := left) (i := CX.lastK k left - 1) (by omega)
    have okl := hst.all _ (List.mem_of_getElem? hgl)
    have okp := hst.all _ (List.mem_of_getElem? hgp)
    obtain ⟨s, hr0, hheads⟩ := List.exists_cons_of_ne_nil (CX.heads_some hg okl (CX.lastAt_ne (left.length - 1) hpos))
    have hsm : s ∈ CX.headsK k (CX.gL left (CX.lastK k left)) := by
      rw [hheads]; exact List.mem_cons_self
    have hfit := CX.next_fit hst.ne hpos hsm
    have hlup := CX.next_lup hg hst.all hst.ne hpos hsm
    have hdn := CX.lup_up hg hst.all hfit hlup
    have hdd := hfit.dd hg
    have hk4 := (jK C).mono e4 hk'
    have hl4 := jLL.mono e4 hleft
    refine ⟨_, fun _ _ h => h, ?_⟩
    refine q_set (P := Is jN s) (ev_ixL (j := 0) (xs := CX.headsK k (CX.gL left (CX.lastK k left))) (isN (ev_c2 (x := k) (y := CX.gL left (CX.lastK k left)) (ev_var rfl hk4) (ev_ixL (j := CX.lastK k left) (ev_var rfl hl4) (ev_v rfl) rfl hgl) ⟨hg, okl.sh hg⟩)) ev_c rfl (by rw [hheads]; rfl)) fun vs H5 e5 p5 => ?_
    cases p5
    have hin : decide (s ∈ CX.fallsK k (CX.gL left (CX.lastK k left - 1))) = CX.fallK k (CX.gL left (CX.lastK k left - 1)) s := by
      have h1 := hfit.step
      cases hf : CX.fallK k (CX.gL left (CX.lastK k left - 1)) s with
      | true => exact decide_eq_true (List.mem_filter.mpr ⟨List.mem_range.mpr h1, hf⟩)
      | false => exact decide_eq_false fun z => Bool.false_ne_true (hf.symm.trans (List.mem_filter.mp z).2)
    have hk5 := (jK C).mono e5 hk4
    have hl5 := jLL.mono e5 hl4
    refine q_set (P := Eqv (.str (sdS (CX.nextK k left s).up))) (ev_if ((et_inN (xs := CX.fallsK k (CX.gL left (CX.lastK k left - 1))) (s := s) (ev_v rfl) (isN (ev_c2 (x := k) (y := CX.gL left (CX.lastK k left - 1)) (ev_var rfl hk5) (ev_ixL (j := CX.lastK k left - 1) (ev_var rfl hl5) (ev_i0 (ev_v rfl) ev_c) (by omega) hgp) ⟨hg, (okp.sh hg).len⟩))).eq hin)
      (fun h => ev_c.eq (by show _ = V.str (sdS (!CX.fallK k (CX.gL left (CX.lastK k left - 1)) s)); rw [h]; rfl)) (fun h => ev_c.eq (by show _ = V.str (sdS (!CX.fallK k (CX.gL left (CX.lastK k left - 1)) s)); rw [h]; rfl))) fun vs H6 e6 p6 => ?_
    cases p6
    have e46 := (e4.trans e5).trans e6
    refine q_app (P := Nu jD H6 (CX.nextK k left s)) (l := p) (xs := ws) (e46 _ _ hpa) (ev_v rfl) (ev_deed ((ev_i0 (ev_v rfl) ev_c).eq (congrArg V.int (by show _ = ((CX.lastK k left - 1 : Nat) : Int); omega))) (ev_v rfl) (ev_v rfl)) (by omega) fun dv H7 e7 p7 => ?_
    have e47 := e46.trans e7
    have eH7 := ee.trans e47
    have hws7 : Paired (jD.r (nw H p (upd H7 p (.lst (ws ++ [dv]))))) (ws ++ [dv]) (ds ++ [CX.nextK k left s]) := by
      refine paired_snoc (paired_mono (fun _ _ z => jD.mono ((nw_mono e47).trans nw_upd) z) hws) (jD.mono ((nw_of (ee.trans e46) ?_).trans nw_upd) p7)
      rw [e46 _ _ hpa]; exact fun z => nomatch z
    have hlf7 : jLL.r (wo p (upd H7 p (.lst (ws ++ [dv])))) w1 left := jLL.mono ((wo_mono e47).trans wo_upd) hlf
    have eH7' := ex_upd (o := .lst (ws ++ [dv])) eH7 hp0
    refine q_set (P := Nu jLL (upd H7 p (.lst (ws ++ [dv]))) (CX.behK k left (CX.nextK k left s))) (nu1 (ev_c3 (ev_var rfl ((jK C).mono eH7' hk)) (ev_var rfl (jLL.mono wo_ex hlf7)) (ev_lastL (R := jD) (xs := ds ++ [CX.nextK k left s]) (ev_var (P := Is (jL jD) (ds ++ [CX.nextK k left s])) rfl ⟨p, _, rfl, upd_same, paired_mono (fun _ _ z => jD.mono nw_ex z) hws7⟩) (ev_u ev_c) (by simp)) ⟨hg, hst.all, hst.len, hfit.seam, hfit.step⟩)) fun w2 H8 e8 p8 => ?_
    have eH8 := eH7'.trans e8
    have hb := hdd.std hst
    refine s_set (P := Eqv (.int (CX.lastK k (CX.behK k left (CX.nextK k left s)) : Nat))) (nuN (ev_c2 (ev_var rfl ((jK C).mono eH8 hk)) (ev_var rfl p8.is) ⟨hg, hb.ne, by have := hb.len; omega⟩)) fun v9 H9 e9 p9 => ?_
    cases p9
    refine ⟨_, ?_, CX.behK k left (CX.nextK k left s), w2, ws ++ [dv], ds ++ [CX.nextK k left s], _, _, rfl, rfl, eH8.trans e9, e9 _ _ (e8 _ _ upd_same), paired_mono (fun _ _ z => jD.mono (nw_mono (e8.trans e9)) z) hws7, jLL.mono (Evl.Ex.trans (wo_new (by rw [upd_same]; exact fun z => nomatch z)) (wo_mono e9)) p8, hle.snoc hdd, ?_, hb, by rw [hdd.length]; exact hll, by rw [hdd.whole hst.all]; exact hwh⟩
    · omega
    · rw [List.length_append]
      show ds.length + 1 + _ = _
      omega
abbrev spDd (C : Addr) : Sp := sp2 (jK C) jLL (jL jD) preX (fun k xs r => r.length = CX.htK k (CX.turnK k xs))
theorem c_deeds_down (T : Tp K mg C) (D : Dfn K mg "deeds_down" s_deeds_down) (c_turned_of : Cal P w K mg base 3 "turned_of" p_turned_of (spTo C)) (c_deeds_up : Cal P w K mg base 6 "deeds_up" p_deeds_up (spDu C)) : Cal P w K mg base 7 "deeds_down" p_deeds_down (spDd C) := by
  refine cal_mk D sc_deeds_down (fun _ _ _ _ h => len2 h) (fun _ _ _ _ _ _ us hl => match us, hl with | [_, _], _ => rfl) (fun f cdv A outer s H vs Q E hr h => ?_)
  obtain ⟨v1, v2, k, xs, rfl, hk, hx, ⟨hg, hs⟩, q⟩ := h
  have hlen := hs.len
  have hts := CX.turn_std hg hs
  refine ⟨_, (pss_cons (ps_set (i := 2) sc_deeds_down.nd rfl (.inr rfl) (pe_op op_sub (pe_callB call_len_seq (by rfl) T.len (by decide +kernel) (pa_cons (pv 1) pa_nil)) pe_int))
      (pss_cons (ps_set (i := 3) sc_deeds_down.nd rfl (.inr rfl) (pe_disp (pps_cons pe_str pe_str (pps_cons pe_str pe_str pps_nil)) rfl rfl (by simp) (by decide)))
      (pss_one (ps_ret (pe_lc (own := [("seam", 4), ("side", 5), ("step", 6)]) (by rfl) sc_deeds_down.nd (pi_list (pe_cal c_deeds_up hr (by rfl) (pa_cons (pv 0) (pa_cons (pe_cal c_turned_of (hr.mono (by decide)) (by rfl) (pa_cons (pv 0) (pa_cons (pv 1) pa_nil))) pa_nil)))) (blkOk_by (own := [("seam", 4), ("side", 5), ("step", 6)]) (N := N_deeds_down) (sc := defScope s_deeds_down) (by decide +kernel)) (fun _ _ _ _ _ => (pg_tupK (K := K) (n := 3) rfl rfl (pgs_cons (pg_name (i := 4) sc_deeds_down.nd rfl (.inl rfl)) (pgs_cons (pg_name (i := 5) sc_deeds_down.nd rfl (.inl rfl)) (pgs_cons (pg_name (i := 6) sc_deeds_down.nd rfl (.inl rfl)) pgs_nil))))) (fun _ _ _ _ _ => pts_nil) (fun _ _ _ _ _ => (pe_tup (pa_cons (pe_op op_sub (pv 2) (pv 4)) (pa_cons (pe_dget (Nat.lt_of_le_of_lt (Nat.add_le_add_left (by decide) _) hr.units) (pv 3) (pv 5) (fun _ _ => rfl)) (pa_cons (pv 6) pa_nil)))))))))), ?_⟩
  refine q_set (P := Eqv (.int ((xs.length : Int) - 2))) (ev_i0 (ev_lenL lenR (ev_var rfl hx)) ev_c) fun v H1 e1 p1 => ?_
  cases p1
  refine q_set ev_other fun v H2 e2 p2 => ?_
  obtain ⟨p, rfl, hp⟩ := p2
  have e12 := e1.trans e2
  refine s_ret (ev_lcE (R := jD) (S := jD) (p := fun r => CX.UpK k (CX.turnK k xs) r) (st := fun v d => [some v1, some v2, some (.int ((xs.length : Int) - 2)), some (.ref p), some (.int (d.seam : Int)), some (.str (sdS d.up)), some (.int (d.step : Int))]) (fun d => ⟨xs.length - 2 - d.seam, !d.up, d.step⟩) (ev_c2E (R2 := jLL) (p := fun r => r = CX.turnK k xs) (ev_var rfl ((jK C).mono e12 hk)) (ev_c2 (ev_var rfl ((jK C).mono e12 hk)) (ev_var rfl (jLL.mono e12 hx)) (preXA ⟨hg, hs⟩)) (fun z hz => hz ▸ ⟨hg, hts⟩) |> fun h => h.imp fun v H3 e3 z => z.imp fun r ⟨z, hz, hu⟩ => hz ▸ hu) (fun r hr2 => by have := hr2.2; have := hts.ht_le hg; omega)
    (fun x v H3 k2 rx hk2 => by obtain ⟨a, rfl, ha⟩ := rx; exact ⟨a, _, rfl, .inl (.inl ha), rfl, _, _, rfl, _, _, rfl, _, _, rfl, rfl, hk2⟩) (fun _ _ => rfl)
    (fun r hr2 i d v H3 e3 hd rd => by
      have hsm := UpK_seam hr2 d (List.mem_of_getElem? hd)
      rw [CX.turn_len] at hsm
      exact ev_deed (d := ⟨xs.length - 2 - d.seam, !d.up, d.step⟩) ((ev_i0 (ev_v rfl) (ev_v rfl)).eq (congrArg V.int (by show _ = ((xs.length - 2 - d.seam : Nat) : Int); omega))) (ev_oget (e3 _ _ hp) (ev_v rfl) (ev_v rfl)) (ev_v rfl))) fun v H3 e3 p3 => ?_
  obtain ⟨r, ⟨ds, hds, rfl⟩, hr3⟩ := p3
  exact q v H3 _ (e12.trans e3) ((List.length_map _).trans hds.2) ((jL jD).mono (newOf_back e12) hr3)

abbrev postW (k : CX.Kd) (xs ys : List (List Int)) (r : List CX.Deed) : Prop := ∃ a b, CX.UpK k xs a ∧ CX.UpK k ys b ∧ (CX.htK k xs + CX.htK k ys ≤ CX.htK k (CX.turnK k xs) + CX.htK k (CX.turnK k ys) → r = a ++ b.reverse)
abbrev spWy (C : Addr) : Sp := sp3 (jK C) jLL jLL (jL jD) (fun k xs ys => preX k xs ∧ preX k ys) postW
theorem c_way_of (T : Tp K mg C) (D : Dfn K mg "way_of" s_way_of) (c_deeds_up : Cal P w K mg base 6 "deeds_up" p_deeds_up (spDu C)) (c_deeds_down : Cal P w K mg base 7 "deeds_down" p_deeds_down (spDd C)) : Cal P w K mg base 8 "way_of" p_way_of (spWy C) := by
  refine cal_mk D sc_way_of (fun _ _ _ _ h => len3 h) (fun _ _ _ _ _ _ us hl => match us, hl with | [_, _, _], _ => rfl) (fun f cdv A outer s H vs Q E hr h => ?_)
  obtain ⟨v1, v2, v3, k, xs, ys, rfl, hk, hx, hy, ⟨⟨hg, hs⟩, _, hs2⟩, q⟩ := h
  have l1 := hs.ht_le hg
  have l2 := hs2.ht_le hg
  have l3 := (CX.turn_std hg hs).ht_le hg
  have l4 := (CX.turn_std hg hs2).ht_le hg
  have hr' := hr
  refine ⟨_, (pss_cons (ps_set (i := 3) sc_way_of.nd rfl (.inl rfl) (pe_op op_cat (pe_cal c_deeds_up (hr.mono (by decide)) (by rfl) (pa_cons (pv 0) (pa_cons (pv 1) pa_nil))) (pe_revL (pe_cal c_deeds_up (hr.mono (by decide)) (by rfl) (pa_cons (pv 0) (pa_cons (pv 2) pa_nil))))))
      (pss_cons (ps_set (i := 4) sc_way_of.nd rfl (.inl rfl) (pe_op op_cat (pe_cal c_deeds_down hr' (by rfl) (pa_cons (pv 0) (pa_cons (pv 1) pa_nil))) (pe_revL (pe_cal c_deeds_down hr' (by rfl) (pa_cons (pv 0) (pa_cons (pv 2) pa_nil))))))
      (pss_one (ps_ret (pe_ifExp (pt_cmpR op_le (pe_callB call_len_seq (by rfl) T.len (by decide +kernel) (pa_cons (pv 3) pa_nil)) (pe_callB call_len_seq (by rfl) T.len (by decide +kernel) (pa_cons (pv 4) pa_nil)) (nomark _)) (pv 3) (pv 4)))))), ?_⟩
  refine q_set (ev_catE (R := jD) (Evl.Ex.refl H) (ev_c2 (ev_var rfl hk) (ev_var rfl hx) ⟨hg, hs⟩) (ev_revE (ev_c2 (ev_var rfl hk) (ev_var rfl hy) ⟨hg, hs2⟩)) (fun a b ha hb => by obtain ⟨c, hc, rfl⟩ := hb; have := ha.2; have := hc.2; rw [List.length_reverse]; omega)) fun w1 H1 e1 p1 => ?_
  obtain ⟨r, ⟨a, b', ha, ⟨b, hb, rfl⟩, rfl⟩, p1⟩ := p1
  have hk1 := (jK C).mono e1 hk
  refine q_set (ev_catE (R := jD) (Evl.Ex.refl H1) (ev_c2 (ev_var rfl hk1) (ev_var rfl (jLL.mono e1 hx)) ⟨hg, hs⟩) (ev_revE (ev_c2 (ev_var rfl hk1) (ev_var rfl (jLL.mono e1 hy)) ⟨hg, hs2⟩)) (fun a b ha hb => by obtain ⟨c, hc, rfl⟩ := hb; have ha : a.length = _ := ha; have hc : c.length = _ := hc; rw [List.length_reverse]; omega)) fun w2 H2 e2 p2 => ?_
  obtain ⟨r2, ⟨c, d', hc, ⟨d, hd, rfl⟩, rfl⟩, p2⟩ := p2
  have hc : c.length = CX.htK k (CX.turnK k xs) := hc
  have hd : d.length = CX.htK k (CX.turnK k ys) := hd
  have hla := ha.2
  have hlb := hb.2
  have p1' : Nu (jL jD) H (a ++ b.reverse) w1 H2 := (jL jD).mono (newOf_mono e2) p1
  have p2' : Nu (jL jD) H (c ++ d.reverse) w2 H2 := (jL jD).mono (newOf_back e1) p2
  have e12 := e1.trans e2
  by_cases hle : (a ++ b.reverse).length ≤ (c ++ d.reverse).length
  · refine s_ret (P := Nu (jL jD) H (a ++ b.reverse)) (ev_yes ((et_i (ev_lenL lenR (ev_var rfl p1'.is)) (ev_lenL lenR (ev_var rfl p2'.is))).eq (decide_eq_true (by omega))) (ev_var rfl p1')) fun v3 H3 e3 p3 => ?_
    exact q v3 H3 _ (e12.trans e3) ⟨a, b, ha, hb, fun _ => rfl⟩ p3
  · refine s_ret (P := Nu (jL jD) H (c ++ d.reverse)) (ev_no ((et_i (ev_lenL lenR (ev_var rfl p1'.is)) (ev_lenL lenR (ev_var rfl p2'.is))).eq (decide_eq_false (by omega))) (ev_var rfl p2')) fun v3 H3 e3 p3 => ?_
    refine q v3 H3 _ (e12.trans e3) ⟨a, b, ha, hb, fun h => absurd ?_ hle⟩ p3
    rw [List.length_append, List.length_append, List.length_reverse, List.length_reverse]
    omega
abbrev pre2 (k : CX.Kd) (xs ys : List (List Int)) : Prop := preX k xs ∧ preX k ys ∧ xs.length = ys.length
abbrev spJd (C : Addr) : Sp := sp3 (jK C) jLL jLL jB pre2 (fun k xs ys r => r = decide (CX.wholeK k xs = CX.wholeK k ys))
theorem c_joined (T : Tp K mg C) (D : Dfn K mg "joined" s_joined) (c_are_joined : Cal P w K mg base 8 "are_joined" p_are_joined (spJo C)) (c_check_two_standings : Cal P w K mg base 10 "check_two_standings" p_check_two_standings (spC2 C)) : Cal P w K mg base 11 "joined" p_joined (spJd C) := by
  refine cal_mk D sc_joined (fun _ _ _ _ h => len3 h) (fun _ _ _ _ _ _ us hl => match us, hl with | [_, _, _], _ => rfl) (fun f cdv A outer s H vs Q E hr h => ?_)
  obtain ⟨v1, v2, v3, k, xs, ys, rfl, hk, hx, hy, ⟨hp, hp2, hl⟩, q⟩ := h
  refine ⟨_, (pss_cons (ps_expr (pe_cal c_check_two_standings hr (by rfl) (pa_cons (pv 0) (pa_cons (pv 1) (pa_cons (pv 2) pa_nil)))))
      (pss_one (ps_ret (pe_cal c_are_joined (hr.mono (by decide)) (by rfl) (pa_cons (pv 0) (pa_cons (pv 1) (pa_cons (pv 2) pa_nil))))))), ?_⟩
  refine q_c2 (ev_var rfl hk) (ev_var rfl hx) (ev_var rfl hy) hp hp2 hl fun H1 e1 => ?_
  exact s_ret (ev_c3 (ev_var rfl ((jK C).mono e1 hk)) (ev_var rfl (jLL.mono e1 hx)) (ev_var rfl (jLL.mono e1 hy)) ⟨hp, hp2⟩) fun v H2 e2 ⟨r, po, pr⟩ => q v H2 r (e1.trans e2) po pr
abbrev spWa (C : Addr) : Sp := sp3 (jK C) jLL jLL (jL jD) (fun k xs ys => pre2 k xs ys ∧ CX.wholeK k xs = CX.wholeK k ys) postW
theorem c_way (T : Tp K mg C) (D : Dfn K mg "way" s_way) (c_are_joined : Cal P w K mg base 8 "are_joined" p_are_joined (spJo C)) (c_way_of : Cal P w K mg base 8 "way_of" p_way_of (spWy C)) (c_check_two_standings : Cal P w K mg base 10 "check_two_standings" p_check_two_standings (spC2 C)) : Cal P w K mg base 11 "way" p_way (spWa C) := by
  refine cal_mk D sc_way (fun _ _ _ _ h => len3 h) (fun _ _ _ _ _ _ us hl => match us, hl with | [_, _, _], _ => rfl) (fun f cdv A outer s H vs Q E hr h => ?_)
  obtain ⟨v1, v2, v3, k, xs, ys, rfl, hk, hx, hy, ⟨⟨hp, hp2, hl⟩, hw⟩, q⟩ := h
  refine ⟨_, (pss_cons (ps_expr (pe_cal c_check_two_standings hr (by rfl) (pa_cons (pv 0) (pa_cons (pv 1) (pa_cons (pv 2) pa_nil)))))
      (pss_one (ps_ret (pe_ifExp (pt_val (pe_cal c_are_joined (hr.mono (by decide)) (by rfl) (pa_cons (pv 0) (pa_cons (pv 1) (pa_cons (pv 2) pa_nil))))) (pe_cal c_way_of (hr.mono (by decide)) (by rfl) (pa_cons (pv 0) (pa_cons (pv 1) (pa_cons (pv 2) pa_nil)))) pe_non)))), ?_⟩
  refine q_c2 (ev_var rfl hk) (ev_var rfl hx) (ev_var rfl hy) hp hp2 hl fun H1 e1 => ?_
  have hk1 := (jK C).mono e1 hk
  have hx1 := jLL.mono e1 hx
  have hy1 := jLL.mono e1 hy
  exact s_ret (ev_yes ((et_B (nuB (ev_c3 (ev_var rfl hk1) (ev_var rfl hx1) (ev_var rfl hy1) ⟨hp, hp2⟩))).eq (decide_eq_true hw)) (ev_c3 (ev_var rfl hk1) (ev_var rfl hx1) (ev_var rfl hy1) ⟨hp, hp2⟩)) fun v H2 e2 ⟨r, po, pr⟩ => q v H2 r (e1.trans e2) po ((jL jD).mono (newOf_back e1) pr)
theorem ev_starts {σ : L2.St} {H : Hp} {tl tk : TE} {j : Nat} {vs : List Nat} {k : CX.Kd} {xs : List (List Int)} {E : XK} (hg : k.good) (h : Ev tl σ H (Is jLL xs)) (hz : xs.length ≤ 40000) (hw : ∀ x, wipe ((wipe σ vs).set j (some x)) vs = wipe σ vs)
    (hk : ∀ v H3, Ex H H3 → Ev tk ((wipe σ vs).set j (some v)) H3 (Is (jK C) k)) : Ev (tLc (iList K tl) (gName j) tYes (tMeth C "start" (spStart C) [] E tk tNil) vs) σ H (Nu (jLd jLI) H (List.replicate xs.length k.start)) := by
  have e := ev_lcN (K := K) (te := tMeth C "start" (spStart C) [] E tk tNil) (fun _ => k.start) h hz hw (fun i x v H3 e3 _ _ => ev_start (hk v H3 e3) hg)
  rw [List.map_const'] at e
  exact e
abbrev spUp (C : Addr) : Sp := sp2 (jK C) jLL (jLd jLI) preX (fun k xs r => r = CX.topK k (CX.wholeK k xs) (xs.length - 1))
abbrev spLo (C : Addr) : Sp := sp2 (jK C) jLL (jLd jLI) preX (fun k xs r => r = CX.botK k (CX.wholeK k xs) (xs.length - 1))
theorem c_uppermost (T : Tp K mg C) (D : Dfn K mg "uppermost" s_uppermost) (m_start : Mt P w K mg base C 1 "start" (spStart C)) (c_whole_of : Cal P w K mg base 7 "whole_of" p_whole_of (spWo C)) (c_check_standing : Cal P w K mg base 9 "check_standing" p_check_standing (spCs C)) : Cal P w K mg base 10 "uppermost" p_uppermost (spUp C) := by
  refine cal_mk D sc_uppermost (fun _ _ _ _ h => len2 h) (fun _ _ _ _ _ _ us hl => match us, hl with | [_, _], _ => rfl) (fun f cdv A outer s H vs Q E hr h => ?_)
  obtain ⟨v1, v2, k, xs, rfl, hk, hx, hp, q⟩ := h
  have hr' := hr
  have hlen := hp.2.len
  refine ⟨_, (pss_cons (ps_expr (pe_cal c_check_standing hr (by rfl) (pa_cons (pv 0) (pa_cons (pv 1) pa_nil))))
      (pss_one (ps_ret (pe_op op_cat (pe_lst (pa_cons (pe_cal c_whole_of (hr.mono (by decide)) (by rfl) (pa_cons (pv 0) (pa_cons (pv 1) pa_nil))) pa_nil)) (pe_lc (own := [("_", 2)]) (by rfl) sc_uppermost.nd (pi_list (pe_slice sl_list (pv 1) (po_some pe_int) po_none)) (blkOk_by (own := [("_", 2)]) (N := N_uppermost) (sc := defScope s_uppermost) (by decide +kernel)) (fun _ _ _ _ _ => (pg_name (i := 2) sc_uppermost.nd rfl (.inl rfl))) (fun _ _ _ _ _ => pts_nil) (fun _ _ _ _ _ => (pe_mt m_start T.cl (hr.mono (by decide)) (pv 0)))))))), ?_⟩
  refine q_cs (ev_var rfl hk) (ev_var rfl hx) hp fun H1 e1 => ?_
  have hk1 := (jK C).mono e1 hk
  have hx1 := jLL.mono e1 hx
  have el : (xs.drop 1).length = xs.length - 1 := List.length_drop
  refine s_ret (ev_catD (ev_oneD (nu1 (ev_c2 (ev_var rfl hk1) (ev_var rfl hx1) hp))) (fun H2 e2 => ev_starts (C := C) hp.1 (ev_fromL (a := 1) (ev_var rfl (jLL.mono e2 hx1)) ev_c rfl) (by omega) (fun _ => rfl) (fun v H3 e3 => ev_var rfl ((jK C).mono (e2.trans e3) hk1))) (by rw [List.length_replicate, el]; show 1 + _ ≤ _; omega)) fun v H3 e3 p3 => ?_
  rw [el] at p3
  exact q v H3 _ (e1.trans e3) rfl ((jLd jLI).mono (newOf_back e1) p3)
theorem c_lowermost (T : Tp K mg C) (D : Dfn K mg "lowermost" s_lowermost) (m_start : Mt P w K mg base C 1 "start" (spStart C)) (c_whole_of : Cal P w K mg base 7 "whole_of" p_whole_of (spWo C)) (c_check_standing : Cal P w K mg base 9 "check_standing" p_check_standing (spCs C)) : Cal P w K mg base 10 "lowermost" p_lowermost (spLo C) := by
  refine cal_mk D sc_lowermost (fun _ _ _ _ h => len2 h) (fun _ _ _ _ _ _ us hl => match us, hl with | [_, _], _ => rfl) (fun f cdv A outer s H vs Q E hr h => ?_)
  obtain ⟨v1, v2, k, xs, rfl, hk, hx, hp, q⟩ := h
  have hr' := hr
  have hlen := hp.2.len
  refine ⟨_, (pss_cons (ps_expr (pe_cal c_check_standing hr (by rfl) (pa_cons (pv 0) (pa_cons (pv 1) pa_nil))))
      (pss_one (ps_ret (pe_op op_cat (pe_lc (own := [("_", 2)]) (by rfl) sc_lowermost.nd (pi_list (pe_slice sl_list (pv 1) (po_some pe_int) po_none)) (blkOk_by (own := [("_", 2)]) (N := N_lowermost) (sc := defScope s_lowermost) (by decide +kernel)) (fun _ _ _ _ _ => (pg_name (i := 2) sc_lowermost.nd rfl (.inl rfl))) (fun _ _ _ _ _ => pts_nil) (fun _ _ _ _ _ => (pe_mt m_start T.cl (hr.mono (by decide)) (pv 0)))) (pe_lst (pa_cons (pe_cal c_whole_of (hr.mono (by decide)) (by rfl) (pa_cons (pv 0) (pa_cons (pv 1) pa_nil))) pa_nil)))))), ?_⟩
  refine q_cs (ev_var rfl hk) (ev_var rfl hx) hp fun H1 e1 => ?_
  have hk1 := (jK C).mono e1 hk
  have hx1 := jLL.mono e1 hx
  have el : (xs.drop 1).length = xs.length - 1 := List.length_drop
  refine s_ret (ev_catD (ev_starts (C := C) hp.1 (ev_fromL (a := 1) (ev_var rfl hx1) ev_c rfl) (by omega) (fun _ => rfl) (fun v H3 e3 => ev_var rfl ((jK C).mono e3 hk1))) (fun H2 e2 => ev_oneD (nu1 (ev_c2 (ev_var rfl ((jK C).mono e2 hk1)) (ev_var rfl (jLL.mono e2 hx1)) hp))) (by rw [List.length_replicate, el]; show _ + 1 ≤ _; omega)) fun v H3 e3 p3 => ?_
  rw [el] at p3
  exact q v H3 _ (e1.trans e3) rfl ((jLd jLI).mono (newOf_back e1) p3)
end
end SL
end
section
set_option Elab.async false
set_option linter.all false
set_option maxRecDepth 100000
set_option maxHeartbeats 4000000
set_option autoImplicit false
/-! zip(a, b, strict=True) of two lists: how it is made. -/
namespace PySem
open Sem (wp)
section
variable {prog : Program} {w : World} {A : Around} {E : Value → Shared → Prop} {s : Shared}
theorem zs_typeCall {T newId : String} {Bn : Builtin} {args : List Value} {kw : List (Str × Value)} {S : Spec} {Q Q₁ : Value → Shared → Prop} (ft : TypeCalled T newId "object.__init__") (hne : (some newId != some "object.__new__") = true)
    (hct : checkTypeCall T ⟨args, kw⟩ = pure ()) (hcn : checkBuiltinCall newId ⟨.type T :: args, kw⟩ = pure ()) (hok : ∀ obj, argsOk "object.__init__" ⟨obj :: args, kw⟩)
    (entryN : entryFor table newId = some Bn) (g : Meets (Bn ⟨.type T :: args, kw⟩) S)
    (h : S A.in1 (wants (fun obj s₁ => s₁.TypeIs obj T ∧ Q obj s₁) E) s) :
    wpAny (model prog w) A (call (.type T) args kw) Q E s := by
  obtain ⟨c, tl, hmro⟩ := ft.mro
  have hmade := ft.made
  have hsub := ft.sub
  refine wpAny_call (codeAny_of_tree ?_)
  show wpAny _ _ (callAny (.type T) _) _ _ _
  refine wpAny_pure ⟨Code.quiet_builtin _ (by decide +kernel), codeAny_builtin F.entry_type_call ?_⟩
  rw [Around.under_plain (weight_type_call_type T args kw) (units_type_call_type T args kw)]
  have h1 := ft.notType
  have h2 := ft.canCreate
  repeat (any_goals (first | assumption | wp_step))
  refine codeAny_mono (codeAny_call_builtin ft.plain entryN (wpAny_of_eq hcn (g prog w A.in1 _ s h))) fun r s₁ hr => ?_
  cases r with
  | error e => exact hr
  | ok fl =>
    cases fl with
    | ret obj =>
      obtain ⟨hT, hq⟩ := hr
      have hli := ft.init.lookup
      have hbi := ft.init.bind obj
      have gi : Meets (Builtin.«object.__init__» ⟨obj :: args, kw⟩) (fun _ R s => s.TypeIs obj T ∧ R (.ok (.ret .none)) s) := by
        refine Meets.of_wp fun prog w A R s hs => ?_
        obtain ⟨hT, hq⟩ := hs
        have hl := ft.init.lookup
        have hm := ft.made
        cases args with
        | nil =>
          cases kw with
          | nil => exact wpAny_pure ⟨_, rfl, hq⟩
          | cons k kw =>
            repeat (any_goals (first | assumption | wp_step))
            exact ⟨_, rfl, hq⟩
        | cons a rest =>
          repeat (any_goals (first | assumption | wp_step))
          exact ⟨_, rfl, hq⟩
      repeat (any_goals (first | assumption | wp_step))
      refine codeAny_mono (codeAny_call_builtin ft.init.plain F.entry_object_init (ft.init.check _ _ _ _ _ _ _ _ hT (hok obj) (gi prog w A.in1 (wants (fun r s₂ => r = .none ∧ Q obj s₂) E) s₁ ⟨hT, rfl, hq⟩))) fun r₂ s₂ hr₂ => ?_
      cases r₂ with
      | error e => exact hr₂
      | ok fl₂ =>
        cases fl₂ with
        | ret r =>
          obtain ⟨rfl, hq⟩ := hr₂
          repeat (any_goals (first | assumption | wp_step))
        | _ => exact hr₂.elim
    | _ => exact hr.elim
end
abbrev kwStrict : List (Str × Value) := [("strict", .bool true)]
theorem zs_tc (a b : Value) : checkTypeCall "zip" ⟨[a, b], kwStrict⟩ = pure () := by kernel_rfl
theorem zs_nc (a b : Value) : checkBuiltinCall "zip.__new__" ⟨[.type "zip", a, b], kwStrict⟩ = pure () := by kernel_rfl
theorem zs_init (a b c : Value) : argsOk "object.__init__" ⟨[a, b, c], kwStrict⟩ := by
  unfold argsOk; rw [signature?_of (id := "object.__init__") (n := ['_', '_', 't', 'i', 'n', 'i', '_', '_']) (o := ['t', 'c', 'e', 'j', 'b', 'o']) (by kernel_rfl) F.owner_object]; kernel_rfl
abbrev IsZipS (h : Heap) (z TI TO : Addr) (f0 : Value) (f1 : Bool) : Prop :=
  h.get? z = some { cls := .type "zip", dict := none, data := .fields #[f0, .bool f1, .bool true, .ref TI, .ref TO], slots := #[] }
abbrev zipS5 (h : Heap) (l1 l2 : Addr) : Heap := (zipH4 h l1 l2).push { cls := .type "zip", data := .fields #[.none, .bool false, .bool true, .ref (zipH2 h l1 l2).objs.size, .ref (zipH3 h l1 l2).objs.size] }
theorem zs_new (l1 l2 : Addr) (xs ys : Array Value) :
    Meets (Builtin.«zip.__new__» ⟨[.type "zip", .ref l1, .ref l2], kwStrict⟩) (fun _ R s => s.heap.IsList l1 xs ∧ s.heap.IsList l2 ys ∧
      R (.ok (.ret (.ref (zipH4 s.heap l1 l2).objs.size))) { s with heap := zipS5 s.heap l1 l2 }) :=
  .of_wp fun prog w A R s h => by
    obtain ⟨hp, g, d, tk, os⟩ := s; obtain ⟨hl1, hl2, h⟩ := h
    have hsub := sub_zip
    have hL1 : Heap.IsList (Shared.heap ⟨hp, g, d, tk, os⟩) l1 xs := hl1
    have hL2 : Heap.IsList (Shared.heap ⟨hp.push { cls := .type "list_iterator", data := .fields #[.ref l1, .int 0 0] }, g, d, tk, os⟩) l2 ys := Heap.IsList.push hl2 _
    wp_walk using wpAny_pyIter_list hL1, wpAny_pyIter_list hL2
    exact ⟨_, rfl, h⟩
section
variable {prog : Program} {w : World} {A : Around} {E : Value → Shared → Prop} {s : Shared}
theorem call_zipS {l1 l2 : Addr} {xs ys : Array Value} {Q : Value → Shared → Prop} (hl1 : s.heap.IsList l1 xs) (hl2 : s.heap.IsList l2 ys)
    (h : ∀ h', IsZipS h' (s.heap.objs.size + 4) (s.heap.objs.size + 2) (s.heap.objs.size + 3) .none false → IsPair h' (s.heap.objs.size + 2) (.ref s.heap.objs.size) (.ref (s.heap.objs.size + 1)) →
      IsPair h' (s.heap.objs.size + 3) .none .none → h'.IsListIter s.heap.objs.size l1 0 → h'.IsListIter (s.heap.objs.size + 1) l2 0 → h'.objs.size = s.heap.objs.size + 5 →
      (∀ c o, s.heap.get? c = some o → h'.get? c = some o) → Q (.ref (s.heap.objs.size + 4)) { s with heap := h' }) :
    wpAny (model prog w) A (call (.type "zip") [.ref l1, .ref l2] kwStrict) Q E s := by
  refine zs_typeCall (Q₁ := Q) F.called_zip (by decide) (zs_tc _ _) (zs_nc _ _) (fun obj => zs_init obj _ _) F.entry_zip_new
    (zs_new l1 l2 xs ys) ⟨hl1, hl2, ?_⟩
  have z1 : (zipH1 s.heap l1).objs.size = s.heap.objs.size + 1 := Heap.size_push ..
  have z2 : (zipH2 s.heap l1 l2).objs.size = s.heap.objs.size + 2 := by rw [Heap.size_push, z1]
  have z3 : (zipH3 s.heap l1 l2).objs.size = s.heap.objs.size + 3 := by rw [Heap.size_push, z2]
  have z4 : (zipH4 s.heap l1 l2).objs.size = s.heap.objs.size + 4 := by rw [Heap.size_push, z3]
  have z5 : (zipS5 s.heap l1 l2).objs.size = s.heap.objs.size + 5 := by rw [Heap.size_push, z4]
  have g5 : (zipS5 s.heap l1 l2).get? (zipH4 s.heap l1 l2).objs.size = some _ := Heap.get?_push_size _ rfl
  have g4 : (zipS5 s.heap l1 l2).get? (zipH3 s.heap l1 l2).objs.size = some _ := Heap.get?_push_of_some _ (Heap.get?_push_size _ rfl)
  have g3 : (zipS5 s.heap l1 l2).get? (zipH2 s.heap l1 l2).objs.size = some _ := Heap.get?_push_of_some _ (Heap.get?_push_of_some _ (Heap.get?_push_size _ rfl))
  have g2 : (zipS5 s.heap l1 l2).get? (zipH1 s.heap l1).objs.size = some _ := Heap.get?_push_of_some _ (Heap.get?_push_of_some _ (Heap.get?_push_of_some _ (Heap.get?_push_size _ rfl)))
  have g1 : (zipS5 s.heap l1 l2).get? s.heap.objs.size = some _ := Heap.get?_push_of_some _ (Heap.get?_push_of_some _ (Heap.get?_push_of_some _ (Heap.get?_push_of_some _ (Heap.get?_push_size _ rfl))))
  show _ ∧ _
  rw [z2, z3, z4] at g5
  rw [z1, z2] at g3
  rw [z3] at g4
  rw [z1] at g2
  rw [z4]
  exact ⟨⟨_, g5, rfl⟩, h _ g5 g3 g4 ⟨_, g1, rfl, rfl⟩ ⟨_, g2, rfl, rfl⟩ z5 fun c o x =>
    Heap.get?_push_of_some _ (Heap.get?_push_of_some _ (Heap.get?_push_of_some _ (Heap.get?_push_of_some _ (Heap.get?_push_of_some _ x))))⟩
end
end PySem
end
section
set_option Elab.async false
set_option linter.all false
set_option maxRecDepth 100000
set_option maxHeartbeats 4000000
set_option autoImplicit false
/-! zip(a, b, strict=True): what it draws. -/
namespace PySem
open Sem (wp)
abbrev F0 (v : Value) : Prop := v = .none ∨ ∃ a t, v = .int a t
section
variable {prog : Program} {w : World} {A : Around} {E : Value → Shared → Prop} {s : Shared}
theorem zs_alive {a : Addr} {Q : Option Obj → Shared → Prop} (h : Q (s.heap.get? a) s) : wpAny (model prog w) A (loadIfAlive a) Q E s := fun _ _ _ => h
theorem zs_free {z TI TO : Addr} {f0 : Value} {f1 : Bool} {Q : Bool → Shared → Prop} (hz : IsZipS s.heap z TI TO f0 f1) (h0 : F0 f0)
    (h : ∀ b h' f1', IsZipS h' z TI TO f0 f1' → Heap.SameBut z s.heap h' → Q b { s with heap := h' }) : wpAny (model prog w) A (Builtin.SmallTypes.ownedTupleIsFree (.ref z)) Q E s := by
  have h00 : ∀ b, Q b s := fun b => h b s.heap f1 hz ⟨rfl, fun _ _ => rfl⟩
  unfold Builtin.SmallTypes.ownedTupleIsFree
  refine wpAny_bind (wpAny_field hz rfl (x := f0) rfl ?_)
  rcases h0 with rfl | ⟨a, t, rfl⟩
  · exact wpAny_pure (h00 _)
  · show wpAny _ _ (loadIfAlive a.toNat >>= _) _ _ _
    refine wpAny_bind (zs_alive ?_)
    cases hg : s.heap.get? a.toNat with
    | none => exact wpAny_pure (h00 _)
    | some o =>
      show wpAny _ _ (field (.ref z) 1 >>= _) _ _ _
      refine wpAny_bind (wpAny_field hz rfl (x := .bool f1) rfl ?_)
      cases f1 with
      | true => exact wpAny_pure (h00 _)
      | false =>
        show wpAny _ _ (setField (.ref z) 1 (.bool true) >>= _) _ _ _
        exact wpAny_bind (wpAny_setField_rec hz (by simp) fun h' hz' hs' => wpAny_pure (h _ h' true hz' hs'))
theorem zs_draw_item {it l : Addr} {i : Nat} {items : Array Value} {x : Value} {Q : Option Value → Shared → Prop} (hit : s.heap.IsListIter it l i) (hl : s.heap.IsList l items) (hx : items[i]? = some x)
    (hQ : ∀ h', h'.IsListIter it l (i + 1) → Heap.SameBut it s.heap h' → Q (some x) { s with heap := h' }) : wpAny (model prog w) A (Builtin.SmallTypes.nextOrEnd (.ref it)) Q E s := by
  unfold Builtin.SmallTypes.nextOrEnd
  exact wpAny_bind (wpAny_attempt (wpAny_nextOf_list_item hit hl hx fun h' a b => wpAny_pure (hQ h' a b)))
theorem zs_draw_end {it l : Addr} {i : Nat} {items : Array Value} {Q : Option Value → Shared → Prop} (hh : A.handled = none) (hit : s.heap.IsListIter it l i) (hl : s.heap.IsList l items) (hx : items[i]? = none)
    (hQ : ∀ h', Heap.ExtBut it s.heap h' → Q none { s with heap := h' }) : wpAny (model prog w) A (Builtin.SmallTypes.nextOrEnd (.ref it)) Q E s := by
  unfold Builtin.SmallTypes.nextOrEnd
  refine wpAny_bind (wpAny_attempt (wpAny_nextOf_list_end hh hit hl hx fun h' e he hx' => ?_))
  obtain ⟨o, ho, hc⟩ := hx'
  show wpAny _ _ (isInstance (.ref e) (.type "StopIteration") >>= _) _ _ _
  refine wpAny_bind (wpAny_isInstance (T := "StopIteration") (b := true) ⟨o, ho, hc⟩ isSubtype_stop ?_)
  exact wpAny_pure (hQ _ he)
theorem zs_stop {α : Type} {Q : α → Shared → Prop} (hh : A.handled = none) (hE : ∀ h' e, (∀ c o, s.heap.get? c = some o → h'.get? c = some o) → (∃ o, h'.get? e = some o ∧ o.cls = .type "StopIteration") → E (.ref e) { s with heap := h' }) :
    wpAny (model prog w) A (Builtin.SmallTypes.stopIteration) Q E s := by
  show wpAny _ _ (newExc (.type "StopIteration") [] >>= _) _ _ _
  refine wpAny_bind ?_
  simp only [newExc, newTuple]
  refine wpAny_bind (wpAny_newObj_type ?_ (by size_fits))
  refine wpAny_bind (m := firstArgMember _ _) (wpAny_of_eq (a := Value.none) (by first | rfl | (simp only [firstArgMember]; rfl)) ?_)
  refine wpAny_newObj_type ?_ (by size_fits)
  simp only [raiseNew]
  refine wpAny_bind (wpAny_handled ?_)
  rw [hh]
  refine wpAny_bind (wpAny_pure (wpAny_throw ?_))
  exact hE _ _ (fun c o x => Heap.get?_push_of_some _ (Heap.get?_push_of_some _ x)) ⟨_, Heap.get?_push_size _ rfl, rfl⟩
theorem zs_next_item {z TI TO i1 i2 l1 l2 : Addr} {k1 k2 : Nat} {xs ys : Array Value} {x y a b f0 : Value} {f1 : Bool} {Q : Value → Shared → Prop} (D : ZipApart z TI TO i1 i2 l1 l2)
    (hz : IsZipS s.heap z TI TO f0 f1) (h0 : F0 f0) (hTI : IsPair s.heap TI (.ref i1) (.ref i2)) (hTO : IsPair s.heap TO a b)
    (h1 : s.heap.IsListIter i1 l1 k1) (h2 : s.heap.IsListIter i2 l2 k2) (hl1 : s.heap.IsList l1 xs) (hl2 : s.heap.IsList l2 ys) (hx : xs[k1]? = some x) (hy : ys[k2]? = some y)
    (hQ : ∀ h' f0' f1' a' b', IsZipS h' z TI TO f0' f1' → F0 f0' → IsPair h' TO a' b' → h'.IsListIter i1 l1 (k1 + 1) → h'.IsListIter i2 l2 (k2 + 1) → IsPair h' s.heap.objs.size x y → h'.objs.size = s.heap.objs.size + 1 →
      (∀ c o, c ≠ z → c ≠ TO → c ≠ i1 → c ≠ i2 → s.heap.get? c = some o → h'.get? c = some o) → Q (.ref s.heap.objs.size) { s with heap := h' }) :
    wpAny (model prog w) A (Builtin.«zip.__next__» ⟨[.ref z], []⟩) (fun fin s' => ∃ v, fin = .done (.ret v) ∧ Q v s') E s := by
  show wpAny _ _ (field (.ref z) 2 >>= _) _ _ _
  refine wpAny_bind (wpAny_field hz rfl (x := .bool true) rfl ?_)
  show wpAny _ _ (field (.ref z) 3 >>= _) _ _ _
  refine wpAny_bind (wpAny_field hz rfl (x := .ref TI) rfl ?_)
  refine wpAny_bind (wpAny_seqItems hTI rfl ?_)
  show wpAny _ _ (Builtin.SmallTypes.ownedTupleIsFree (.ref z) >>= _) _ _ _
  refine wpAny_bind (zs_free hz h0 fun bf h₀ f1' hz₀ hs₀ => ?_)
  have hTO₀ : IsPair h₀ TO a b := hs₀.extBut _ _ D.TOz hTO
  have h1₀ : h₀.IsListIter i1 l1 k1 := h1.extBut hs₀.extBut D.i1z
  have h2₀ : h₀.IsListIter i2 l2 k2 := h2.extBut hs₀.extBut D.i2z
  have hl1₀ : h₀.IsList l1 xs := hl1.extBut hs₀.extBut D.l1z
  have hl2₀ : h₀.IsList l2 ys := hl2.extBut hs₀.extBut D.l2z
  have hsz₀ : h₀.objs.size = s.heap.objs.size := hs₀.1
  cases bf with
  | true =>
    simp only [if_true]
    refine wpAny_bind (wpAny_rule ?_)
    refine wpAny_bind (wpAny_field hz₀ rfl (x := .ref TO) rfl ?_)
    refine wpAny_bind (wpAny_setField_rec hz₀ (by simp) fun h₁ hz₁ hs₁ => ?_)
    replace hz₁ : IsZipS h₁ z TI TO .ellipsis f1' := hz₁
    replace hs₁ : Heap.SameBut z h₀ h₁ := hs₁
    refine wpAny_bind ?_
    simp only [List.zipIdx_cons, List.zipIdx_nil, List.forIn_cons, List.forIn_nil]
    refine wpAny_bind (wpAny_bind (wpAny_onRaise ?_))
    show wpAny _ _ (Builtin.SmallTypes.nextOrEnd (.ref i1)) _ _ _
    refine zs_draw_item (h1₀.extBut hs₁.extBut D.i1z) (hl1₀.extBut hs₁.extBut D.l1z) hx fun h₂ h1₂ hs₂ => ?_
    replace hs₂ : Heap.SameBut i1 h₁ h₂ := hs₂
    have hTO₂ : IsPair h₂ TO a b := hs₂.extBut _ _ D.TOi1 (hs₁.extBut _ _ D.TOz hTO₀)
    refine wpAny_bind (wpAny_seqItems hTO₂ rfl ?_)
    refine wpAny_bind (wpAny_updateSeq_pair hTO₂ fun h₃ hTO₃ hs₃ => ?_)
    replace hTO₃ : IsPair h₃ TO x b := hTO₃
    replace hs₃ : Heap.SameBut TO h₂ h₃ := hs₃
    refine wpAny_bind (wpAny_letGo (wpAny_pure ?_))
    refine wpAny_bind (wpAny_bind (wpAny_onRaise ?_))
    show wpAny _ _ (Builtin.SmallTypes.nextOrEnd (.ref i2)) _ _ _
    refine zs_draw_item (((h2₀.extBut hs₁.extBut D.i2z).extBut hs₂.extBut D.i12.symm).extBut hs₃.extBut D.TOi2.symm)
      (((hl2₀.extBut hs₁.extBut D.l2z).extBut hs₂.extBut D.l2i1).extBut hs₃.extBut D.l2TO) hy fun h₄ h2₄ hs₄ => ?_
    replace hs₄ : Heap.SameBut i2 h₃ h₄ := hs₄
    have hTO₄ : IsPair h₄ TO x b := hs₄.extBut _ _ D.TOi2 hTO₃
    refine wpAny_bind (wpAny_seqItems hTO₄ rfl ?_)
    refine wpAny_bind (wpAny_updateSeq_pair hTO₄ fun h₅ hTO₅ hs₅ => ?_)
    replace hTO₅ : IsPair h₅ TO x y := hTO₅
    replace hs₅ : Heap.SameBut TO h₄ h₅ := hs₅
    refine wpAny_bind (wpAny_letGo (wpAny_pure (wpAny_pure ?_)))
    refine wpAny_bind (wpAny_seqItems hTO₅ rfl ?_)
    refine wpAny_bind (wpAny_newTuple ?_)
    have hsz : h₅.objs.size = s.heap.objs.size := by rw [hs₅.1, hs₄.1, hs₃.1, hs₂.1, hs₁.1, hs₀.1]
    have hz₅ : IsZipS h₅ z TI TO .ellipsis f1' := hs₅.extBut _ _ D.TOz.symm (hs₄.extBut _ _ D.i2z.symm (hs₃.extBut _ _ D.TOz.symm (hs₂.extBut _ _ D.i1z.symm hz₁)))
    have hk₅ : ∀ c o, c ≠ z → c ≠ TO → c ≠ i1 → c ≠ i2 → s.heap.get? c = some o → h₅.get? c = some o := fun c o c1 c2 c3 c4 e =>
      hs₅.extBut _ _ c2 (hs₄.extBut _ _ c4 (hs₃.extBut _ _ c2 (hs₂.extBut _ _ c3 (hs₁.extBut _ _ c1 (hs₀.extBut _ _ c1 e)))))
    have h1₅ : h₅.IsListIter i1 l1 (k1 + 1) := ((h1₂.extBut hs₃.extBut D.TOi1.symm).extBut hs₄.extBut D.i12).extBut hs₅.extBut D.TOi1.symm
    have h2₅ : h₅.IsListIter i2 l2 (k2 + 1) := h2₄.extBut hs₅.extBut D.TOi2.symm
    have hzlt : z < h₅.objs.size := Heap.lt_size hz₅
    show wpAny _ _ (Builtin.SmallTypes.ownedTupleHandOut (.ref z) (.ref h₅.objs.size) >>= _) _ _ _
    refine wpAny_bind ?_
    unfold Builtin.SmallTypes.ownedTupleHandOut
    have hz₆ : IsZipS (h₅.push { cls := .type "tuple", data := .seq #[x, y] }) z TI TO .ellipsis f1' := Heap.get?_push_of_some _ hz₅
    refine wpAny_bind (wpAny_setField_rec hz₆ (by simp) fun h₇ hz₇ hs₇ => ?_)
    replace hz₇ : IsZipS h₇ z TI TO (rawInt h₅.objs.size) f1' := hz₇
    refine wpAny_setField_rec hz₇ (by simp) fun h₈ hz₈ hs₈ => ?_
    replace hz₈ : IsZipS h₈ z TI TO (rawInt h₅.objs.size) false := hz₈
    have up : ∀ c o, c ≠ z → h₅.get? c = some o → h₈.get? c = some o := fun c o c1 e => hs₈.extBut _ _ c1 (hs₇.extBut _ _ c1 (Heap.get?_push_of_some _ e))
    have hT₈ : IsPair h₈ h₅.objs.size x y := hs₈.extBut _ _ (Nat.ne_of_gt hzlt) (hs₇.extBut _ _ (Nat.ne_of_gt hzlt) (Heap.get?_push_size _ rfl))
    have hz8 : h₈.objs.size = h₅.objs.size + 1 := by rw [hs₈.1, hs₇.1, Heap.size_push]
    rw [hsz] at hz₈ hT₈ hz8
    refine wpAny_pure ⟨_, rfl, ?_⟩
    show Q (.ref h₅.objs.size) _
    rw [hsz]
    exact hQ h₈ _ _ _ _ hz₈ (.inr ⟨_, _, rfl⟩) (up _ _ D.TOz hTO₅) (h1₅.at fun o e => up _ o D.i1z e) (h2₅.at fun o e => up _ o D.i2z e) hT₈ hz8 fun c o c1 c2 c3 c4 e => up c o c1 (hk₅ c o c1 c2 c3 c4 e)
  | false =>
    simp only [Bool.false_eq_true, if_false]
    refine wpAny_bind ?_
    rw [← Array.forIn_toList]
    simp only [List.forIn_cons, List.forIn_nil]
    refine wpAny_bind (wpAny_bind (wpAny_holding ?_))
    show wpAny _ _ (Builtin.SmallTypes.nextOrEnd (.ref i1)) _ _ _
    refine zs_draw_item h1₀ hl1₀ hx fun h₂ h1₂ hs₂ => ?_
    replace hs₂ : Heap.SameBut i1 h₀ h₂ := hs₂
    refine wpAny_pure ?_
    refine wpAny_bind (wpAny_bind (wpAny_holding ?_))
    show wpAny _ _ (Builtin.SmallTypes.nextOrEnd (.ref i2)) _ _ _
    refine zs_draw_item (h2₀.extBut hs₂.extBut D.i12.symm) (hl2₀.extBut hs₂.extBut D.l2i1) hy fun h₄ h2₄ hs₄ => ?_
    replace hs₄ : Heap.SameBut i2 h₂ h₄ := hs₄
    refine wpAny_pure ?_
    refine wpAny_pure ?_
    have hsz : h₄.objs.size = s.heap.objs.size := by rw [hs₄.1, hs₂.1, hs₀.1]
    have hz₄ : IsZipS h₄ z TI TO f0 f1' := hs₄.extBut _ _ D.i2z.symm (hs₂.extBut _ _ D.i1z.symm hz₀)
    have hTO₄ : IsPair h₄ TO a b := hs₄.extBut _ _ D.TOi2 (hs₂.extBut _ _ D.TOi1 hTO₀)
    have h1₄ : h₄.IsListIter i1 l1 (k1 + 1) := h1₂.extBut hs₄.extBut D.i12
    show wpAny _ _ (newTuple [x, y] >>= _) _ _ _
    refine wpAny_bind (wpAny_newTuple ?_)
    refine wpAny_pure ⟨_, rfl, ?_⟩
    show Q (.ref h₄.objs.size) _
    rw [hsz]
    have up : ∀ c o, h₄.get? c = some o → (h₄.push { cls := .type "tuple", data := .seq #[x, y] }).get? c = some o := fun c o e => Heap.get?_push_of_some _ e
    have hT : IsPair (h₄.push { cls := .type "tuple", data := .seq #[x, y] }) h₄.objs.size x y := Heap.get?_push_size _ rfl
    rw [hsz] at hT
    exact hQ _ _ _ _ _ (up _ _ hz₄) h0 (up _ _ hTO₄) (h1₄.at fun o e => up _ o e) (h2₄.at fun o e => up _ o e) hT (by rw [Heap.size_push, hsz]) fun c o c1 c2 c3 c4 e => up c o (hs₄.extBut _ _ c4 (hs₂.extBut _ _ c3 (hs₀.extBut _ _ c1 e)))
end
end PySem
end
section
set_option Elab.async false
set_option linter.all false
set_option maxRecDepth 100000
set_option maxHeartbeats 4000000
set_option autoImplicit false
/-! zip(a, b, strict=True): how it ends. -/
namespace PySem
open Sem (wp)
section
variable {prog : Program} {w : World} {A : Around} {E : Value → Shared → Prop} {s : Shared}
/-- the end of all: i is the second list's iterator -/
theorem zs_end_of {m : Sem Fin} {i l : Addr} {k : Nat} {ys : Array Value} {Q : Fin → Shared → Prop} (hm : m = (do
      for (it, j) in ([Value.ref i] : List Value).zipIdx 1 do
        if (← Builtin.SmallTypes.nextOrEnd it).isSome then
          rule "zip.__next__.longer"; raiseError "ValueError" s!"zip() argument {j + 1} is longer than {if j == 1 then "argument 1" else s!"arguments 1-{j}"}"
      rule "zip.__next__.all-ended"; Builtin.SmallTypes.stopIteration)) (hh : A.handled = none) (hi : s.heap.IsListIter i l k) (hl : s.heap.IsList l ys) (hy : ys[k]? = none)
    (hE : ∀ h' e, (∀ c o, c ≠ i → s.heap.get? c = some o → h'.get? c = some o) → (∃ o, h'.get? e = some o ∧ o.cls = .type "StopIteration") → E (.ref e) { s with heap := h' }) : wpAny (model prog w) A m Q E s := by
  subst hm
  simp only [List.zipIdx_cons, List.zipIdx_nil, List.forIn_cons, List.forIn_nil]
  refine wpAny_bind (wpAny_bind (wpAny_bind (zs_draw_end hh hi hl hy fun h₂ hs₂ => ?_)))
  refine wpAny_pure (wpAny_pure ?_)
  refine wpAny_bind (wpAny_rule ?_)
  exact zs_stop hh fun h' e k1 k2 => hE h' e (fun c o c1 x => k1 c o (hs₂ c o c1 x)) k2
theorem zs_next_end {z TI TO i1 i2 l1 l2 : Addr} {k1 k2 : Nat} {xs ys : Array Value} {a b f0 : Value} {f1 : Bool} {Q : Fin → Shared → Prop} (hh : A.handled = none) (D : ZipApart z TI TO i1 i2 l1 l2)
    (hz : IsZipS s.heap z TI TO f0 f1) (h0 : F0 f0) (hTI : IsPair s.heap TI (.ref i1) (.ref i2)) (hTO : IsPair s.heap TO a b)
    (h1 : s.heap.IsListIter i1 l1 k1) (h2 : s.heap.IsListIter i2 l2 k2) (hl1 : s.heap.IsList l1 xs) (hl2 : s.heap.IsList l2 ys) (hx : xs[k1]? = none) (hy : ys[k2]? = none)
    (hE : ∀ h' e, (∀ c o, c ≠ z → c ≠ TO → c ≠ i1 → c ≠ i2 → s.heap.get? c = some o → h'.get? c = some o) → (∃ o, h'.get? e = some o ∧ o.cls = .type "StopIteration") → E (.ref e) { s with heap := h' }) :
    wpAny (model prog w) A (Builtin.«zip.__next__» ⟨[.ref z], []⟩) Q E s := by
  show wpAny _ _ (field (.ref z) 2 >>= _) _ _ _
  refine wpAny_bind (wpAny_field hz rfl (x := .bool true) rfl ?_)
  show wpAny _ _ (field (.ref z) 3 >>= _) _ _ _
  refine wpAny_bind (wpAny_field hz rfl (x := .ref TI) rfl ?_)
  refine wpAny_bind (wpAny_seqItems hTI rfl ?_)
  show wpAny _ _ (Builtin.SmallTypes.ownedTupleIsFree (.ref z) >>= _) _ _ _
  refine wpAny_bind (zs_free hz h0 fun bf h₀ f1' hz₀ hs₀ => ?_)
  have h1₀ : h₀.IsListIter i1 l1 k1 := h1.extBut hs₀.extBut D.i1z
  have h2₀ : h₀.IsListIter i2 l2 k2 := h2.extBut hs₀.extBut D.i2z
  have hl1₀ : h₀.IsList l1 xs := hl1.extBut hs₀.extBut D.l1z
  have hl2₀ : h₀.IsList l2 ys := hl2.extBut hs₀.extBut D.l2z
  cases bf with
  | true =>
    simp only [if_true]
    refine wpAny_bind (wpAny_rule ?_)
    refine wpAny_bind (wpAny_field hz₀ rfl (x := .ref TO) rfl ?_)
    refine wpAny_bind (wpAny_setField_rec hz₀ (by simp) fun h₁ hz₁ hs₁ => ?_)
    replace hz₁ : IsZipS h₁ z TI TO .ellipsis f1' := hz₁
    replace hs₁ : Heap.SameBut z h₀ h₁ := hs₁
    refine wpAny_bind ?_
    simp only [List.zipIdx_cons, List.zipIdx_nil, List.forIn_cons, List.forIn_nil]
    refine wpAny_bind (wpAny_bind (wpAny_onRaise ?_))
    show wpAny _ _ (Builtin.SmallTypes.nextOrEnd (.ref i1)) _ _ _
    refine zs_draw_end hh (h1₀.extBut hs₁.extBut D.i1z) (hl1₀.extBut hs₁.extBut D.l1z) hx fun h₂ hs₂ => ?_
    replace hs₂ : Heap.ExtBut i1 h₁ h₂ := hs₂
    have hz₂ : IsZipS h₂ z TI TO .ellipsis f1' := hs₂ _ _ D.i1z.symm hz₁
    refine wpAny_bind (wpAny_setField_rec hz₂ (by simp) fun h₃ hz₃ hs₃ => ?_)
    replace hs₃ : Heap.SameBut z h₂ h₃ := hs₃
    refine wpAny_bind (zs_end_of (i := i2) (l := l2) (k := k2) (ys := ys) rfl hh ?_ ?_ hy fun h' e k1 k2 => ?_)
    · exact ((h2₀.extBut hs₁.extBut D.i2z).extBut hs₂ D.i12.symm).extBut hs₃.extBut D.i2z
    · exact ((hl2₀.extBut hs₁.extBut D.l2z).extBut hs₂ D.l2i1).extBut hs₃.extBut D.l2z
    · exact hE h' e (fun c o c1 c2 c3 c4 x => k1 c o c4 (hs₃.extBut _ _ c1 (hs₂ _ _ c3 (hs₁.extBut _ _ c1 (hs₀.extBut _ _ c1 x))))) k2
  | false =>
    simp only [Bool.false_eq_true, if_false]
    refine wpAny_bind ?_
    rw [← Array.forIn_toList]
    simp only [List.forIn_cons, List.forIn_nil]
    refine wpAny_bind (wpAny_bind (wpAny_holding ?_))
    show wpAny _ _ (Builtin.SmallTypes.nextOrEnd (.ref i1)) _ _ _
    refine zs_draw_end hh h1₀ hl1₀ hx fun h₂ hs₂ => ?_
    replace hs₂ : Heap.ExtBut i1 h₀ h₂ := hs₂
    refine wpAny_bind (zs_end_of (i := i2) (l := l2) (k := k2) (ys := ys) rfl hh ?_ ?_ hy fun h' e k1 k2 => ?_)
    · exact h2₀.extBut hs₂ D.i12.symm
    · exact hl2₀.extBut hs₂ D.l2i1
    · exact hE h' e (fun c o c1 c2 c3 c4 x => k1 c o c4 (hs₂ _ _ c3 (hs₀.extBut _ _ c1 x))) k2
end
end PySem
end
section
set_option Elab.async false
set_option linter.all false
set_option maxRecDepth 100000
set_option maxHeartbeats 4000000
set_option autoImplicit false
/-! enumerate(zip(a, b, strict=True)). -/
namespace PySem
open Sem (wp)
section
variable {prog : Program} {w : World} {A : Around} {E : Value → Shared → Prop} {s : Shared}
theorem zs_pyIter {z TI TO : Addr} {f0 : Value} {f1 : Bool} {Q : Value → Shared → Prop} (hz : IsZipS s.heap z TI TO f0 f1) (h : Q (.ref z) s) : wpAny (model prog w) A (pyIter (.ref z)) Q E s := by
  have hT : s.TypeIs (.ref z) "zip" := ⟨_, hz, rfl⟩
  refine wpAny_pyIter_slot hT F.slot_zip_iter (wpAny_call_entry F.slot_zip_iter hT F.entry_zip_iter ?_ (F.args_zip_iter_1 _))
  show wpAny _ _ (ret (.ref z)) _ _ s
  exact wpAny_pure ⟨_, rfl, "zip", _, hT, F.slot_zip_next.lookup, h⟩
end
theorem zs_enum_new (z TI TO : Addr) (f0 : Value) (f1 : Bool) :
    Meets (Builtin.«enumerate.__new__» ⟨[.type "enumerate", .ref z], []⟩) (fun _ R s => IsZipS s.heap z TI TO f0 f1 ∧
      R (.ok (.ret (.ref s.heap.objs.size))) { s with heap := s.heap.push { cls := .type "enumerate", data := .fields #[.none, .bool false, .ref z, rawInt 0, .none, .none] } }) :=
  .of_wp fun prog w A R s h => by
    obtain ⟨hp, g, d, tk, os⟩ := s; obtain ⟨hl, h⟩ := h
    have hsub := sub_enumerate
    have hL : IsZipS (Shared.heap ⟨hp, g, d, tk, os⟩) z TI TO f0 f1 := hl
    wp_walk using AutoSeq1.wpAny_loadPart' hl
    refine wpAny_stack_any fun st => wpAny_pure ?_
    split
    · rename_i c _ _ _ _ _
      cases (c == Value.type "enumerate")
      · wp_walk using AutoSeq1.wpAny_loadPart' hl, zs_pyIter hL
        exact ⟨_, rfl, h⟩
      · wp_walk using AutoSeq1.wpAny_loadPart' hl, zs_pyIter hL
        exact ⟨_, rfl, h⟩
    · wp_walk using AutoSeq1.wpAny_loadPart' hl, zs_pyIter hL
      exact ⟨_, rfl, h⟩
section
variable {prog : Program} {w : World} {A : Around} {E : Value → Shared → Prop} {s : Shared}
theorem zs_enum_call {z TI TO : Addr} {f0 : Value} {f1 : Bool} {Q : Value → Shared → Prop} (hz : IsZipS s.heap z TI TO f0 f1)
    (h : ∀ h', IsEnum h' s.heap.objs.size z 0 .none → h'.objs.size = s.heap.objs.size + 1 → (∀ b o, s.heap.get? b = some o → h'.get? b = some o) → Q (.ref s.heap.objs.size) { s with heap := h' }) :
    wpAny (model prog w) A (call (.type "enumerate") [.ref z]) Q E s := by
  refine callType_new F.called_enumerate (by decide) (F.typeCall_enumerate_1 _) (F.newCall_enumerate_1 _) (fun obj => F.args_object_init_2 obj _) F.entry_enumerate_new
    (zs_enum_new z TI TO f0 f1) ⟨hz, ?_⟩
  have he : IsEnum (s.heap.push { cls := .type "enumerate", data := .fields #[.none, .bool false, .ref z, rawInt 0, .none, .none] }) s.heap.objs.size z 0 .none := Heap.get?_push_size s.heap rfl
  exact ⟨⟨_, he, rfl⟩, h _ he (by rw [Heap.size_push]) fun b o x => Heap.get?_push_of_some _ x⟩
structure EnumApart (e z TI TO i1 i2 : Addr) : Prop where
  z : e ≠ z
  TI : e ≠ TI
  TO : e ≠ TO
  i1 : e ≠ i1
  i2 : e ≠ i2
theorem zs_enum_item {e z TI TO i1 i2 l1 l2 : Addr} {k : Nat} {xs ys : Array Value} {x y a b f0 old : Value} {f1 : Bool} {Q : Value → Shared → Prop} (D : ZipApart z TI TO i1 i2 l1 l2) (G : EnumApart e z TI TO i1 i2)
    (he : IsEnum s.heap e z k old) (hz : IsZipS s.heap z TI TO f0 f1) (h0 : F0 f0) (hTI : IsPair s.heap TI (.ref i1) (.ref i2)) (hTO : IsPair s.heap TO a b)
    (h1 : s.heap.IsListIter i1 l1 k) (h2 : s.heap.IsListIter i2 l2 k) (hl1 : s.heap.IsList l1 xs) (hl2 : s.heap.IsList l2 ys) (hx : xs[k]? = some x) (hy : ys[k]? = some y)
    (hQ : ∀ h' f0' f1' a' b', IsEnumOut h' e z ((k : Int) + 1) (.ref s.heap.objs.size) (s.heap.objs.size + 1) → IsZipS h' z TI TO f0' f1' → F0 f0' → IsPair h' TO a' b' → h'.IsListIter i1 l1 (k + 1) → h'.IsListIter i2 l2 (k + 1) →
      IsPair h' s.heap.objs.size x y → IsPair h' (s.heap.objs.size + 1) (.int k s.toks) (.ref s.heap.objs.size) → h'.objs.size = s.heap.objs.size + 2 →
      (∀ c o, c ≠ e → c ≠ z → c ≠ TO → c ≠ i1 → c ≠ i2 → s.heap.get? c = some o → h'.get? c = some o) → Q (.ref (s.heap.objs.size + 1)) { s with heap := h', toks := s.toks + 1 }) :
    wpAny (model prog w) A (Builtin.«enumerate.__next__» ⟨[.ref e], []⟩) (fun fin s' => ∃ v, fin = .done (.ret v) ∧ Q v s') E s := by
  obtain ⟨hp, g, d, tk, os⟩ := s
  show wpAny _ _ (field (.ref e) 2 >>= _) _ _ _
  refine wpAny_bind (wpAny_field he rfl (x := .ref z) rfl ?_)
  have hT : (Shared.mk hp g d tk os).TypeIs (.ref z) "zip" := ⟨_, hz, rfl⟩
  refine wpAny_bind ?_
  unfold Builtin.SmallTypes.nextOf
  refine wpAny_bind (wpAny_callSpecial?_slot (name := Str.ofString "__next__") hT F.slot_zip_next
    (wpAny_call_entry F.slot_zip_next hT F.entry_zip_next
      (zs_next_item D hz h0 hTI hTO h1 h2 hl1 hl2 hx hy fun h₁ f0' f1' a' b' hz₁ h0' hTO₁ h1₁ h2₁ hP₁ hsz₁ hk₁ => wpAny_pure ?_) (F.args_zip_next_1 _)))
  replace hsz₁ : h₁.objs.size = hp.objs.size + 1 := hsz₁
  replace hP₁ : IsPair h₁ hp.objs.size x y := hP₁
  have he₁ : IsEnum h₁ e z k old := hk₁ e _ G.z G.TO G.i1 G.i2 he
  have hel : e < hp.objs.size := Heap.lt_size he
  show wpAny _ _ (field (.ref e) 3 >>= _) _ _ ⟨h₁, g, d, tk, os⟩
  refine wpAny_bind (wpAny_field he₁ rfl (x := rawInt k) rfl ?_)
  show wpAny _ _ (field (.ref e) 4 >>= _) _ _ ⟨h₁, g, d, tk, os⟩
  refine wpAny_bind (wpAny_field he₁ rfl (x := .none) rfl ?_)
  show wpAny _ _ (mkInt k >>= _) _ _ ⟨h₁, g, d, tk, os⟩
  refine wpAny_bind (wpAny_mkInt ?_)
  show wpAny _ _ (setField (.ref e) 3 (rawInt ((k : Int) + 1)) >>= _) _ _ ⟨h₁, g, d, tk + 1, os⟩
  refine wpAny_bind (wpAny_setField_rec he₁ (by simp) fun h₂ he₂ hs₂ => ?_)
  replace hs₂ : Heap.SameBut e h₁ h₂ := hs₂
  replace he₂ : IsEnum h₂ e z ((k : Int) + 1) old := he₂
  show wpAny _ _ (setField (.ref e) 4 .none >>= _) _ _ ⟨h₂, g, d, tk + 1, os⟩
  refine wpAny_bind (wpAny_setField_rec he₂ (by simp) fun h₃ he₃ hs₃ => ?_)
  replace hs₃ : Heap.SameBut e h₂ h₃ := hs₃
  replace he₃ : IsEnum h₃ e z ((k : Int) + 1) old := he₃
  have hsz : h₃.objs.size = hp.objs.size + 1 := by rw [hs₃.1, hs₂.1, hsz₁]
  show wpAny _ _ (newTuple [.int k tk, .ref hp.objs.size] >>= _) _ _ ⟨h₃, g, d, tk + 1, os⟩
  refine wpAny_bind (wpAny_newTuple ?_)
  have he₄ : IsEnum (h₃.push { cls := .type "tuple", data := .seq #[.int k tk, .ref hp.objs.size] }) e z ((k : Int) + 1) old := Heap.get?_push_of_some _ he₃
  have up₄ : ∀ c o, c ≠ e → h₁.get? c = some o → (h₃.push { cls := .type "tuple", data := .seq #[.int k tk, .ref hp.objs.size] }).get? c = some o := fun c o c1 x => Heap.get?_push_of_some _ (hs₃.extBut c o c1 (hs₂.extBut c o c1 x))
  have ht₄ : IsPair (h₃.push { cls := .type "tuple", data := .seq #[.int k tk, .ref hp.objs.size] }) (hp.objs.size + 1) (.int k tk) (.ref hp.objs.size) := by
    have := Heap.get?_push_size h₃ (o := { cls := .type "tuple", data := .seq #[.int k tk, .ref hp.objs.size] }) rfl
    rw [hsz] at this; exact this
  have hz₄ : (h₃.push { cls := .type "tuple", data := .seq #[.int k tk, .ref hp.objs.size] }).objs.size = hp.objs.size + 2 := by rw [Heap.size_push, hsz]
  generalize h₃.push { cls := .type "tuple", data := .seq #[.int k tk, .ref hp.objs.size] } = h₄ at he₄ up₄ ht₄ hz₄
  show wpAny _ _ (Builtin.SmallTypes.ownedTupleIsFree (.ref e) >>= _) _ _ ⟨h₄, g, d, tk + 1, os⟩
  rw [hsz]
  refine wpAny_bind ?_
  unfold Builtin.SmallTypes.ownedTupleIsFree
  refine wpAny_bind (wpAny_field he₄ rfl (x := .none) rfl (wpAny_pure ?_))
  simp only [if_true]
  refine wpAny_bind (wpAny_rule ?_)
  refine wpAny_bind (wpAny_field he₄ rfl (x := old) rfl ?_)
  refine wpAny_bind (wpAny_setField_rec he₄ (by simp) fun h₅ he₅ hs₅ => ?_)
  replace hs₅ : Heap.SameBut e h₄ h₅ := hs₅
  replace he₅ : IsEnum h₅ e z ((k : Int) + 1) (.ref hp.objs.size) := he₅
  show wpAny _ _ (Builtin.SmallTypes.ownedTupleHandOut (.ref e) (.ref (hp.objs.size + 1)) >>= _) _ _ ⟨h₅, g, d, tk + 1, os⟩
  refine wpAny_bind ?_
  unfold Builtin.SmallTypes.ownedTupleHandOut
  refine wpAny_bind (wpAny_setField_rec he₅ (by simp) fun h₆ he₆ hs₆ => ?_)
  replace hs₆ : Heap.SameBut e h₅ h₆ := hs₆
  replace he₆ : IsEnumOut h₆ e z ((k : Int) + 1) (.ref hp.objs.size) (hp.objs.size + 1) := he₆
  refine wpAny_setField_rec he₆ (by simp) fun h₇ he₇ hs₇ => ?_
  replace hs₇ : Heap.SameBut e h₆ h₇ := hs₇
  replace he₇ : IsEnumOut h₇ e z ((k : Int) + 1) (.ref hp.objs.size) (hp.objs.size + 1) := he₇
  have up : ∀ c o, c ≠ e → h₁.get? c = some o → h₇.get? c = some o := fun c o c1 x => hs₇.extBut _ _ c1 (hs₆.extBut _ _ c1 (hs₅.extBut _ _ c1 (up₄ c o c1 x)))
  refine wpAny_bind (wpAny_letGo (wpAny_pure ⟨_, rfl, hQ h₇ f0' f1' a' b' he₇ (up _ _ G.z.symm hz₁) h0' (up _ _ G.TO.symm hTO₁) (h1₁.at fun o x => up _ o G.i1.symm x) (h2₁.at fun o x => up _ o G.i2.symm x) (up _ _ (Nat.ne_of_gt hel) hP₁) ?_ ?_ ?_⟩))
  · have c1 : hp.objs.size + 1 ≠ e := Nat.ne_of_gt (Nat.lt_succ_of_lt hel)
    exact hs₇.extBut _ _ c1 (hs₆.extBut _ _ c1 (hs₅.extBut _ _ c1 ht₄))
  · rw [hs₇.1, hs₆.1, hs₅.1, hz₄]
  · exact fun c o ce cz cTO c1 c2 x => up c o ce (hk₁ c o cz cTO c1 c2 x)
theorem zs_enum_end {e z TI TO i1 i2 l1 l2 : Addr} {k : Nat} {xs ys : Array Value} {a b f0 old : Value} {f1 : Bool} {Q : Option Value → Shared → Prop} (hh : A.handled = none) (D : ZipApart z TI TO i1 i2 l1 l2)
    (he : IsEnum s.heap e z k old) (hz : IsZipS s.heap z TI TO f0 f1) (h0 : F0 f0) (hTI : IsPair s.heap TI (.ref i1) (.ref i2)) (hTO : IsPair s.heap TO a b)
    (h1 : s.heap.IsListIter i1 l1 k) (h2 : s.heap.IsListIter i2 l2 k) (hl1 : s.heap.IsList l1 xs) (hl2 : s.heap.IsList l2 ys) (hx : xs[k]? = none) (hy : ys[k]? = none)
    (hQ : ∀ h', (∀ c o, c ≠ z → c ≠ TO → c ≠ i1 → c ≠ i2 → s.heap.get? c = some o → h'.get? c = some o) → Q none { s with heap := h' }) : wpAny (model prog w) A (pyNext (.ref e)) Q E s := by
  have hT : s.TypeIs (.ref e) "enumerate" := ⟨_, he, rfl⟩
  unfold pyNext
  refine wpAny_bind (wpAny_attempt (wpAny_callSpecial?_slot (name := Str.ofString "__next__") hT F.slot_enumerate_next
    (wpAny_call_entry F.slot_enumerate_next hT F.entry_enumerate_next ?_ (F.args_enumerate_next_1 _))))
  show wpAny _ _ (field (.ref e) 2 >>= _) _ _ _
  refine wpAny_bind (wpAny_field he rfl (x := .ref z) rfl ?_)
  have hT2 : s.TypeIs (.ref z) "zip" := ⟨_, hz, rfl⟩
  refine wpAny_bind ?_
  unfold Builtin.SmallTypes.nextOf
  refine wpAny_bind (wpAny_callSpecial?_slot (name := Str.ofString "__next__") hT2 F.slot_zip_next
    (wpAny_call_entry F.slot_zip_next hT2 F.entry_zip_next
      (zs_next_end hh D hz h0 hTI hTO h1 h2 hl1 hl2 hx hy fun h' ex hk hx' => ?_) (F.args_zip_next_1 _)))
  obtain ⟨o, ho, hc⟩ := hx'
  refine wpAny_bind (wpAny_isInstance (T := "StopIteration") (b := true) ⟨o, ho, hc⟩ isSubtype_stop ?_)
  exact wpAny_pure (hQ _ hk)
theorem zs_pyNext {e z TI TO i1 i2 l1 l2 : Addr} {k : Nat} {xs ys : Array Value} {x y a b f0 old : Value} {f1 : Bool} {Q : Option Value → Shared → Prop} (D : ZipApart z TI TO i1 i2 l1 l2) (G : EnumApart e z TI TO i1 i2)
    (he : IsEnum s.heap e z k old) (hz : IsZipS s.heap z TI TO f0 f1) (h0 : F0 f0) (hTI : IsPair s.heap TI (.ref i1) (.ref i2)) (hTO : IsPair s.heap TO a b)
    (h1 : s.heap.IsListIter i1 l1 k) (h2 : s.heap.IsListIter i2 l2 k) (hl1 : s.heap.IsList l1 xs) (hl2 : s.heap.IsList l2 ys) (hx : xs[k]? = some x) (hy : ys[k]? = some y)
    (hQ : ∀ h' f0' f1' a' b', IsEnumOut h' e z ((k : Int) + 1) (.ref s.heap.objs.size) (s.heap.objs.size + 1) → IsZipS h' z TI TO f0' f1' → F0 f0' → IsPair h' TO a' b' → h'.IsListIter i1 l1 (k + 1) → h'.IsListIter i2 l2 (k + 1) →
      IsPair h' s.heap.objs.size x y → IsPair h' (s.heap.objs.size + 1) (.int k s.toks) (.ref s.heap.objs.size) → h'.objs.size = s.heap.objs.size + 2 →
      (∀ c o, c ≠ e → c ≠ z → c ≠ TO → c ≠ i1 → c ≠ i2 → s.heap.get? c = some o → h'.get? c = some o) → Q (some (.ref (s.heap.objs.size + 1))) { s with heap := h', toks := s.toks + 1 }) :
    wpAny (model prog w) A (pyNext (.ref e)) Q E s := by
  have hT : s.TypeIs (.ref e) "enumerate" := ⟨_, he, rfl⟩
  unfold pyNext
  exact wpAny_bind (wpAny_attempt (wpAny_callSpecial?_slot (name := Str.ofString "__next__") hT F.slot_enumerate_next
    (wpAny_call_entry F.slot_enumerate_next hT F.entry_enumerate_next
      (zs_enum_item D G he hz h0 hTI hTO h1 h2 hl1 hl2 hx hy fun h' f0' f1' a' b' p1 p2 p3 p4 p5 p6 p7 p8 p9 p10 => wpAny_pure (hQ h' f0' f1' a' b' p1 p2 p3 p4 p5 p6 p7 p8 p9 p10)) (F.args_enumerate_next_1 _))))
end
end PySem
end
section
set_option Elab.async false
set_option linter.all false
set_option maxRecDepth 100000
set_option maxHeartbeats 4000000
set_option autoImplicit false
/-! for i, (x, y) in enumerate(zip(a, b, strict=True)): the rule. -/
namespace L2
open PySem PySem.Spec PyProof.Rows
section
variable {X : Cx} {pins : List (Addr × Obj)} {σ : St} {H : Hp} {s : Shared} {h' : Heap}
theorem Inv.turnedNew2 {t' : Nat} {ch : List Addr} {T U : Addr} {ob ob2 : HO} (I : Inv X pins σ H s) (k : ∀ b o, b ∉ ch → s.heap.get? b = some o → h'.get? b = some o) (hf : ∀ b ∈ ch, FpOk X pins H b) (hT : s.heap.objs.size ≤ T) (hU : s.heap.objs.size ≤ U) (hTU : T ≠ U)
    (new : ObjOk X.prog X.w (upd (upd H T ob) U ob2) h' T ob) (new2 : ObjOk X.prog X.w (upd (upd H T ob) U ob2) h' U ob2) : Inv X pins σ (upd (upd H T ob) U ob2) { s with heap := h', toks := t' } := by
  have hn : H T = none := I.hok.fresh hT
  have hn2 : H U = none := I.hok.fresh hU
  have nit : ∀ b u, H b = some u → b ∉ ch := fun b u e z => by
    have q := (hf b z).1
    rw [q] at e; cases e
  have up : ∀ b, b ≠ T → b ≠ U → upd (upd H T ob) U ob2 b = H b := fun b c1 c2 => by rw [upd_ne c2, upd_ne c1]
  have ups : ∀ b u, H b = some u → upd (upd H T ob) U ob2 b = some u := fun b u e => by rw [up b (ne_of_none e hn) (ne_of_none e hn2)]; exact e
  refine I.step (g' := s.gens) (d' := s.drawn) (ch := ch) (fun b hb => ⟨(hf b hb).2.2.2.1, (hf b hb).2.1, (hf b hb).2.2.2.2.1, (hf b hb).2.2.2.2.2⟩) (fun b o _ _ hc e _ => k b o hc e) (fun b o _ _ hc e _ => ⟨o.slots, k b o hc e⟩)
    (fun b o _ e n => ?_) (fun b o hc e => ⟨o, k b o hc e⟩) (fun b xs e => ?_) (fun b o u e => ?_) (fun b ps e => ⟨#[], ?_⟩) (fun m hm => ?_) (fun b u e => ?_) I.bare
  · rw [up b (Nat.ne_of_lt (Nat.lt_of_lt_of_le (Heap.lt_size e) hT)) (Nat.ne_of_lt (Nat.lt_of_lt_of_le (Heap.lt_size e) hU))]; exact n
  · exact ups _ _ e
  · exact ups _ _ e
  · rw [ups _ _ e]; simp
  · obtain ⟨o, es, ep, ho, r⟩ := hm
    exact ⟨o, es, ep, k _ o (fun z => (hf _ z).2.1 rfl) ho, r⟩
  · by_cases hb : b = U
    · subst hb
      rw [upd_same] at e
      cases e
      exact new2
    · by_cases hb2 : b = T
      · subst hb2
        rw [upd_ne hb, upd_same] at e
        cases e
        exact new
      · rw [up b hb2 hb] at e
        refine (I.hok b u e).stay (fun c v hc q => k c v ?_ q) (fun c q => ups _ _ q) fun c xs q => ups _ _ q
        rcases hc with z | z
        · rw [z]; exact nit b u e
        · exact nit c _ z
end
/-- the lists at a and b as they stand at each turn, the items in new pairs within new pairs -/
def Itez (K : PySem.W.Frag) (a b : Addr) : It :=
  ⟨fun i H => ∃ (xs ys : List V) (x y : V), SqL K H a xs ∧ SqL K H b ys ∧ xs[i]? = some x ∧ ys[i]? = some y,
    fun i H v H' => ∃ T U x y, v = .ref U ∧ H T = none ∧ H U = none ∧ T ≠ U ∧ H' = upd (upd H T (.tup [x, y])) U (.tup [.int (i : Nat), .ref T]) ∧ (∀ xs, SqL K H a xs → xs[i]? = some x) ∧ ∀ ys, SqL K H b ys → ys[i]? = some y,
    fun i H => ∃ xs ys : List V, SqL K H a xs ∧ SqL K H b ys ∧ xs.length ≤ i ∧ ys.length ≤ i⟩
theorem turn_ez {P : Program} {w : World} {K : PySem.W.Frag} {elts : List Expr} {kk : Nat} {tpos : Pos} {a b e z TI TO i1 i2 : Addr} (D : ZipApart z TI TO i1 i2 a b) (G : EnumApart e z TI TO i1 i2) :
    Turn P w K (.Tuple elts kk tpos) (Itez K a b) [e, z, TI, TO, i1, i2] e (fun i h => (∃ old, IsEnum h e z ((i : Nat) : Int) old) ∧ (∃ f0 f1, IsZipS h z TI TO f0 f1 ∧ F0 f0) ∧ IsPair h TI (.ref i1) (.ref i2) ∧ (∃ x y, IsPair h TO x y) ∧ h.IsListIter i1 a i ∧ h.IsListIter i2 b i) where
  mem := by simp
  obj := fun i h st c hc => by
    obtain ⟨⟨old, he⟩, ⟨f0, f1, hz, _⟩, hTI, ⟨x, y, hTO⟩, ⟨o1, e1, _, d1⟩, ⟨o2, e2, _, d2⟩⟩ := st
    have e' : c = e ∨ c = z ∨ c = TI ∨ c = TO ∨ c = i1 ∨ c = i2 := by simpa using hc
    rcases e' with q | q | q | q | q | q
    · rw [q]; exact ⟨_, he, fun v q => nomatch q⟩
    · rw [q]; exact ⟨_, hz, fun v q => nomatch q⟩
    · rw [q]; exact ⟨_, hTI, fun v q => nomatch q⟩
    · rw [q]; exact ⟨_, hTO, fun v q => nomatch q⟩
    · rw [q]; exact ⟨o1, e1, fun v q => by rw [d1] at q; cases q⟩
    · rw [q]; exact ⟨o2, e2, fun v q => by rw [d2] at q; cases q⟩
  keep := fun i h h' st k => by
    obtain ⟨⟨old, he⟩, ⟨f0, f1, hz, h0⟩, hTI, ⟨x, y, hTO⟩, h1, h2⟩ := st
    exact ⟨⟨old, k e (by simp) _ he⟩, ⟨f0, f1, k z (by simp) _ hz, h0⟩, k TI (by simp) _ hTI, ⟨x, y, k TO (by simp) _ hTO⟩, h1.at fun o q => k i1 (by simp) o q, h2.at fun o q => k i2 (by simp) o q⟩
  item := by
    intro X hP hw hK hc i pins s σ H E I hf st hg
    subst hP hw hK
    obtain ⟨⟨old, he⟩, ⟨f0, f1, hz, h0⟩, hTI, ⟨x0, y0, hTO⟩, h1, h2⟩ := st
    obtain ⟨xs, ys, x, y, hqx, hqy, hx, hy⟩ := hg
    obtain ⟨its, rv, p, _⟩ := I.list hqx
    obtain ⟨its2, rv2, p2, _⟩ := I.list hqy
    obtain ⟨u, hu, ru⟩ := rv.get hx
    obtain ⟨u2, hu2, ru2⟩ := rv2.get hy
    have hel : e < s.heap.objs.size := Heap.lt_size he
    refine zs_pyNext D G he hz h0 hTI hTO h1 h2 p.isList p2.isList (x := u) (y := u2) (by simpa using hu) (by simpa using hu2) fun h' f0' f1' a' b' he' hz' h0' hTO' h1' h2' hT hU hsz hk => ?_
    refine ⟨_, rfl, wpAny_letOwnedTupleGo_enum (s := { s with heap := h', toks := s.toks + 1 }) he' fun h'' he'' sb => ?_⟩
    have hT2 : h''.get? s.heap.objs.size = some { cls := .type "tuple", data := .seq #[u, u2] } := (sb.2 _ (Nat.ne_of_gt hel)).trans hT
    have hU2 : h''.get? (s.heap.objs.size + 1) = some { cls := .type "tuple", data := .seq #[.int i s.toks, .ref s.heap.objs.size] } := (sb.2 _ (Nat.ne_of_gt (Nat.lt_succ_of_lt hel))).trans hU
    have hTU : s.heap.objs.size ≠ s.heap.objs.size + 1 := Nat.ne_of_lt (Nat.lt_succ_self _)
    have new : ObjOk X.prog X.w (upd (upd H s.heap.objs.size (.tup [x, y])) (s.heap.objs.size + 1) (.tup [.int (i : Nat), .ref s.heap.objs.size])) h'' s.heap.objs.size (.tup [x, y]) :=
      ⟨by show 2 ≤ sizeLine; decide, [u, u2], .cons ru (.cons ru2 .nil), ⟨_, hT2, rfl, _, rfl⟩⟩
    have new2 : ObjOk X.prog X.w (upd (upd H s.heap.objs.size (.tup [x, y])) (s.heap.objs.size + 1) (.tup [.int (i : Nat), .ref s.heap.objs.size])) h'' (s.heap.objs.size + 1) (.tup [.int (i : Nat), .ref s.heap.objs.size]) :=
      ⟨by show 2 ≤ sizeLine; decide, [.int i s.toks, .ref s.heap.objs.size], .cons ⟨_, rfl⟩ (.cons rfl .nil), ⟨_, hU2, rfl, _, rfl⟩⟩
    have I1 : Inv X pins σ (upd (upd H s.heap.objs.size (.tup [x, y])) (s.heap.objs.size + 1) (.tup [.int (i : Nat), .ref s.heap.objs.size])) { s with heap := h'', toks := s.toks + 1 } :=
      I.turnedNew2 (t' := s.toks + 1) (ch := [e, z, TI, TO, i1, i2]) (fun c o hb q => (sb.2 c (fun q' => hb (by simp [q']))).trans (hk c o (fun q' => hb (by simp [q'])) (fun q' => hb (by simp [q'])) (fun q' => hb (by simp [q'])) (fun q' => hb (by simp [q'])) (fun q' => hb (by simp [q'])) q)) hf (Nat.le_refl _) (Nat.le_succ _) hTU new new2
    refine ⟨.ref (s.heap.objs.size + 1), _, I1, rfl, ⟨_, _, x, y, rfl, I.hok.fresh (Nat.le_refl _), I.hok.fresh (Nat.le_succ _), hTU, rfl, fun l hl => by rw [I.list_inj hl hqx]; exact hx, fun l hl => by rw [I.list_inj hl hqy]; exact hy⟩, ⟨⟨.ref s.heap.objs.size, ?_⟩, ⟨f0', f1', ?_, h0'⟩, ?_, ⟨a', b', ?_⟩, ?_, ?_⟩, fun c hcm => ?_⟩
    · have e1 : ((i + 1 : Nat) : Int) = (i : Int) + 1 := by omega
      rw [e1]; exact he''
    · exact (sb.2 _ G.z.symm).trans hz'
    · exact (sb.2 _ G.TI.symm).trans (hk _ _ G.TI.symm D.TIz D.TITO D.TIi1 D.TIi2 hTI)
    · exact (sb.2 _ G.TO.symm).trans hTO'
    · exact h1'.at fun o q => (sb.2 _ G.i1.symm).trans q
    · exact h2'.at fun o q => (sb.2 _ G.i2.symm).trans q
    · have hlt : c < s.heap.objs.size := by
        have e' : c = e ∨ c = z ∨ c = TI ∨ c = TO ∨ c = i1 ∨ c = i2 := by simpa using hcm
        rcases e' with q | q | q | q | q | q
        · rw [q]; exact hel
        · rw [q]; exact Heap.lt_size hz
        · rw [q]; exact Heap.lt_size hTI
        · rw [q]; exact Heap.lt_size hTO
        · rw [q]; obtain ⟨_, e1, _⟩ := h1; exact Heap.lt_size e1
        · rw [q]; obtain ⟨_, e2, _⟩ := h2; exact Heap.lt_size e2
      rw [upd_ne (Nat.ne_of_lt (Nat.lt_succ_of_lt hlt)), upd_ne (Nat.ne_of_lt hlt)]
      exact (hf c hcm).1
  done := by
    intro X hP hw hK hc i pins s σ H E I hf st hg
    subst hP hw hK
    obtain ⟨⟨old, he⟩, ⟨f0, f1, hz, h0⟩, hTI, ⟨x0, y0, hTO⟩, h1, h2⟩ := st
    obtain ⟨xs, ys, hqx, hqy, n1, n2⟩ := hg
    obtain ⟨its, rv, p, _⟩ := I.list hqx
    obtain ⟨its2, rv2, p2, _⟩ := I.list hqy
    have l1 := rv.length
    have l2 := rv2.length
    exact zs_enum_end (I.ok.hd hc) D he hz h0 hTI hTO h1 h2 p.isList p2.isList (by simp; omega) (by simp; omega) fun h' hk => ⟨rfl, I.turnedL (t' := s.toks) (ch := [e, z, TI, TO, i1, i2]) (fun c o hb q =>
      hk c o (fun q' => hb (by simp [q'])) (fun q' => hb (by simp [q'])) (fun q' => hb (by simp [q'])) (fun q' => hb (by simp [q'])) q) hf⟩
  self := fun A i s Q E st h => let ⟨⟨_, he⟩, _⟩ := st; wpAny_pyIter_enum he h
section
variable {M : Model} {A : Around} {E : Value → Shared → Prop} {s : Shared} {env : Env}
theorem zs_callWith {pos : Pos} {T : String} {args : List (Bool × Sem Value)} {keywords : List (Option Str × Sem Value)} {Q : Value → Shared → Prop}
    (hplain : args.any (·.1) = false) (hkw : keywords.any (·.1.isNone) = false)
    (h : wpAny M A (evalArgs (.type T) true args keywords) (fun a s₁ => wpAny M A (call (.type T) a.pos a.kw) Q E s₁) E s) :
    wpAny M A (callWith pos (.type T) [] args keywords) Q E s := by
  unfold callWith
  refine wpAny_bind (wpAny_holding (wpAny_mono h (fun a s₁ h₁ => wpAny_bind (wpAny_standAt ?_)) fun _ _ x => x))
  simp only [hplain, hkw, Bool.or_false]
  refine wpAny_bind (wpAny_pure ?_)
  exact wpAny_bind (wpAny_mono h₁ (fun r s₂ hr => wpAny_bind (wpAny_holding (wpAny_point (wpAny_pure hr)))) fun _ _ x => x)
end
def iEZ (K : PySem.W.Frag) (ta : TA) : TI := fun σ H R => ta σ H fun vs H1 => ∃ a b xs ys, vs = [.ref a, .ref b] ∧ SqL K H1 a xs ∧ SqL K H1 b ys ∧ R (Itez K a b) H1
theorem pi_ez {X : Cx} {e e2 : Expr} {ta : TA} {p p2 pos pos2 kp cp tpos : Pos} {ck : Nat} {elts : List Expr} {kk : Nat} (hg : Gl X "enumerate") (hm : X.mg "enumerate" = none) (hg2 : Gl X "zip") (hm2 : X.mg "zip" = none) (ha : PA X [e, e2] ta)
    (hs : starEach [e, e2] X.env = (false, eval e X.env) :: starEach [e2] X.env := by rfl) (hpl : (backTo pos2 (starEach [e, e2] X.env)).any (·.1) = false := by rfl) :
    PI X (.Tuple elts kk tpos) (.Call (.Name "enumerate" p) [.Call (.Name "zip" p2) [e, e2] [⟨some "strict", .Constant (.bool true) ck cp, kp⟩] pos2] [] pos) (iEZ X.K ta) := by
  refine ⟨fun pins s σ H R I h => ?_⟩
  refine Call_ (ld_blt I hg hm boot_enumerate (PyProof.Rows.callWith_type1 (e := .Call (.Name "zip" p2) [e, e2] [⟨some "strict", .Constant (.bool true) ck cp, kp⟩] pos2) (rest := []) ?_))
  refine args_cons (wpAny_mono (Q := fun v s1 => ∃ (z : Addr) (H1 : Hp) (a b TI TO i1 i2 : Addr), v = .ref z ∧ Inv X pins σ H1 s1 ∧ IsZipS s1.heap z TI TO .none false ∧ IsPair s1.heap TI (.ref i1) (.ref i2) ∧ IsPair s1.heap TO .none .none ∧ s1.heap.IsListIter i1 a 0 ∧ s1.heap.IsListIter i2 b 0 ∧ ZipApart z TI TO i1 i2 a b ∧
      (∀ c ∈ [z, TI, TO, i1, i2], FpOk X pins H1 c ∧ c < s1.heap.objs.size) ∧ R (Itez X.K a b) H1) ?_ (fun v s1 hv => ?_) fun _ _ x => x)
  · show wpAny _ _ (eval (.Name "zip" p2) X.env >>= fun f => callWith pos2 f [] (backTo pos2 (starEach [e, e2] X.env)) (backToKw pos2 (keywordEach [⟨some "strict", .Constant (.bool true) ck cp, kp⟩] X.env))) _ _ _
    refine wpAny_bind (ld_blt I hg2 hm2 PyProof.Rows.boot_zip (zs_callWith hpl rfl ?_))
    have hb : backTo pos2 (starEach [e, e2] X.env) = (false, eval e X.env) :: backTo pos2 (starEach [e2] X.env) := by rw [hs]; rfl
    have hr := ha.run pos2 pins s σ H _ I h
    rw [hb] at hr ⊢
    refine evalArgs_kwB rfl (thn hr fun us s1 ⟨vs, H1, I1, r1, q1⟩ => ?_)
    obtain ⟨a, b, xs, ys, ex, hqx, hqy, q⟩ := q1
    subst ex
    cases r1 with
    | cons r rr =>
      cases rr with
      | cons r' rr =>
        cases rr
        cases r
        cases r'
        obtain ⟨its, rv, p1, _⟩ := I1.list hqx
        obtain ⟨its2, rv2, p2, _⟩ := I1.list hqy
        have la : a < s1.heap.objs.size := p1.lt
        have lb : b < s1.heap.objs.size := p2.lt
        refine kws_cons (Constant_bool (kws_nil ?_))
        refine call_zipS p1.isList p2.isList fun h' hz hTI hTO h1 h2 hsz hk => ?_
        have I2 : Inv X pins σ H1 { s1 with heap := h' } := I1.kept (t' := s1.toks) hk
        refine ⟨_, H1, a, b, _, _, _, _, rfl, I2, hz, hTI, hTO, h1, h2, PySem.W.ktu_apart s1.heap.objs.size a b la lb, fun c hcm => ?_, q⟩
        have e' : c = s1.heap.objs.size + 4 ∨ c = s1.heap.objs.size + 2 ∨ c = s1.heap.objs.size + 3 ∨ c = s1.heap.objs.size ∨ c = s1.heap.objs.size + 1 := by simpa using hcm
        have hle : s1.heap.objs.size ≤ c := by
          rcases e' with z | z | z | z | z
          · rw [z]; exact Nat.le_add_right _ _
          · rw [z]; exact Nat.le_add_right _ _
          · rw [z]; exact Nat.le_add_right _ _
          · rw [z]; exact Nat.le_refl _
          · rw [z]; exact Nat.le_add_right _ _
        have hlt : c < s1.heap.objs.size + 5 := by
          rcases e' with z | z | z | z | z
          · rw [z]; exact Nat.add_lt_add_left (by decide) _
          · rw [z]; exact Nat.add_lt_add_left (by decide) _
          · rw [z]; exact Nat.add_lt_add_left (by decide) _
          · rw [z]; exact Nat.lt_add_of_pos_right (by decide)
          · rw [z]; exact Nat.add_lt_add_left (by decide) _
        refine ⟨I1.fpOk hle (I1.hok.fresh hle), ?_⟩
        show c < h'.objs.size
        rw [hsz]
        exact hlt
  · obtain ⟨z, H1, a, b, TI, TO, i1, i2, rfl, I1, hz, hTI, hTO, h1, h2, D, hfp, q⟩ := hv
    refine args_nil ?_
    refine zs_enum_call hz fun h' he hsz hk => ?_
    refine wpAny_pyIter_enum he ?_
    have I2 : Inv X pins σ H1 { s1 with heap := h' } := I1.kept (t' := s1.toks) hk
    have ap : ∀ c ∈ [z, TI, TO, i1, i2], s1.heap.objs.size ≠ c := fun c hc => Nat.ne_of_gt (hfp c hc).2
    have G : EnumApart s1.heap.objs.size z TI TO i1 i2 := ⟨ap _ (by simp), ap _ (by simp), ap _ (by simp), ap _ (by simp), ap _ (by simp)⟩
    refine ⟨s1.heap.objs.size, [s1.heap.objs.size, z, TI, TO, i1, i2], _, _, H1, rfl, I2, turn_ez D G, ⟨⟨.none, he⟩, ⟨.none, false, hk _ _ hz, .inl rfl⟩, hk _ _ hTI, ⟨_, _, hk _ _ hTO⟩, h1.at fun o x => hk _ o x, h2.at fun o x => hk _ o x⟩, fun c hcm => ?_, q⟩
    rcases List.mem_cons.mp hcm with e' | e'
    · rw [e']; exact I1.fpOk (Nat.le_refl _) (I1.hok.fresh (Nat.le_refl _))
    · exact (hfp c e').1
end L2
end
section
set_option Elab.async false
set_option linter.all false
set_option maxRecDepth 100000
set_option maxHeartbeats 4000000
set_option autoImplicit false
/-! for i, (x, y) in enumerate(zip(xs, ys, strict=True)); pairs. -/
namespace SL
open PySem PySem.Spec PyProof.Rows L2
section
variable {K : PySem.W.Frag} {σ : L2.St} {H H' H0 : Hp} {ta tb tc td te tl : TE} {tt tu : TT} {x y z v : V} {P P' P1 P2 P3 : V → Hp → Prop} {D : Ends} {ts tw tz : TS} {C : Addr} {k : CX.Kd} {α β γ δ ε : Type} {R : RP α} {S : RP β} {vs : List Nat}
theorem s_forEZ {xs : List α} {ys : List β} {j1 j2 j3 : Nat} (h1 : Ev ta σ H (Is (jL R) xs)) (h2 : Ev tb σ H (Is (jL S) ys)) (hl : xs.length = ys.length) (Pv : Nat → L2.St → Hp → Prop) (h0 : ∀ H1, Ex H H1 → Pv 0 σ H1)
    (hs : ∀ (i : Nat) (x : α) (y : β) (v w : V) (σ' : L2.St) (H' H2 : Hp) (N : L2.St → Hp → Prop), Ex H H' → Ex H' H2 → R.r H2 v x → S.r H2 w y → xs[i]? = some x → ys[i]? = some y → Pv i σ' H' → (∀ σ3 H3, Ex H2 H3 → Pv (i + 1) σ3 H3 → N σ3 H3) →
      ts { D with nx := N, ct := N, bk := D.nx } (((σ'.set j1 (some (.int (i : Int)))).set j2 (some v)).set j3 (some w)) H2)
    (hd : ∀ σ' H', Ex H H' → Pv xs.length σ' H' → D.nx σ' H') :
    tFor (iEZ K (tCons ta (tCons tb tNil))) (gTup K 2 (gCons (gName j1) (gCons (gTup K 2 (gCons (gName j2) (gCons (gName j3) gNil))) gNil))) ts D σ H :=
  h1 H (Evl.Ex.refl H) _ fun v H1 e1 ⟨a, ws, ev, ha, hp⟩ => h2 H1 e1 _ fun w H2 e2 ⟨b, us, ew, hb, hq⟩ => by
    subst ev ew
    have e12 := e1.trans e2
    have la := paired_len hp
    have lb := paired_len hq
    refine ⟨a, b, ws, us, rfl, .inl (.inl (e2 _ _ ha)), .inl (.inl hb), fun i m σ' H' => m + i = xs.length ∧ Ex H2 H' ∧ Pv i σ' H', ⟨xs.length, rfl, Evl.Ex.refl H2, h0 H2 e12⟩, fun i m σ' H' ⟨em, ee, p⟩ => ?_⟩
    have qa : SqL K H' a ws := .inl (.inl (ee _ _ (e2 _ _ ha)))
    have qb : SqL K H' b us := .inl (.inl (ee _ _ hb))
    by_cases hi : i < xs.length
    · obtain ⟨x, hx⟩ : ∃ x, xs[i]? = some x := ⟨xs[i], List.getElem?_eq_getElem hi⟩
      obtain ⟨y, hy⟩ : ∃ y, ys[i]? = some y := ⟨ys[i]'(by omega), List.getElem?_eq_getElem (by omega)⟩
      obtain ⟨v, hv, rv⟩ := paired_get' hp hx
      obtain ⟨w, hw, rw'⟩ := paired_get' hq hy
      refine .inr ⟨⟨ws, us, v, w, qa, qb, hv, hw⟩, fun σ2 H3 => Ex H2 H3 ∧ Pv (i + 1) σ2 H3, fun σ2 H3 p2 => ⟨m - 1, by omega, by omega, p2⟩, fun t H3 ⟨T, U, v', w', et, hT, hU, hTU, eH, ua, ub⟩ => ?_⟩
      subst et eH
      have e5 := Option.some.inj ((ua _ qa).symm.trans hv)
      have e6 := Option.some.inj ((ub _ qb).symm.trans hw)
      subst e5 e6
      have hU' : upd H' T (.tup [v', w']) U = none := by rw [upd_ne (Ne.symm hTU)]; exact hU
      have e7 : Ex H' (upd (upd H' T (.tup [v', w'])) U (.tup [.int (i : Nat), .ref T])) := (Evl.Ex.new hT).trans (Evl.Ex.new hU')
      refine ⟨U, _, rfl, .inl (.inl upd_same), rfl, _, _, rfl, _, _, rfl, ⟨T, _, rfl, .inl (.inl (by rw [upd_ne hTU]; exact upd_same)), rfl, _, _, rfl, _, _, rfl, rfl, rfl, ?_⟩⟩
      exact hs i x y v' w' σ' H' _ _ (e12.trans ee) e7 (R.mono ((e2.trans ee).trans e7) rv) (S.mono (ee.trans e7) rw') hx hy p fun σ3 H3 e8 p3 => ⟨(ee.trans e7).trans e8, p3⟩
    · refine .inl ⟨⟨ws, us, qa, qb, by omega, by omega⟩, ?_⟩
      have e : i = xs.length := by omega
      subst e
      exact hd σ' H' (e12.trans ee) p
theorem q_forEZ {xs : List α} {ys : List β} {j1 j2 j3 : Nat} (h1 : Ev ta σ H (Is (jL R) xs)) (h2 : Ev tb σ H (Is (jL S) ys)) (hl : xs.length = ys.length) (Pv : Nat → L2.St → Hp → Prop) (h0 : ∀ H1, Ex H H1 → Pv 0 σ H1)
    (hs : ∀ (i : Nat) (x : α) (y : β) (v w : V) (σ' : L2.St) (H' H2 : Hp) (N : L2.St → Hp → Prop), Ex H H' → Ex H' H2 → R.r H2 v x → S.r H2 w y → xs[i]? = some x → ys[i]? = some y → Pv i σ' H' → (∀ σ3 H3, Ex H2 H3 → Pv (i + 1) σ3 H3 → N σ3 H3) →
      ts { D with nx := N, ct := N, bk := tz D } (((σ'.set j1 (some (.int (i : Int)))).set j2 (some v)).set j3 (some w)) H2)
    (hd : ∀ σ' H', Ex H H' → Pv xs.length σ' H' → tz D σ' H') :
    tSeq (tFor (iEZ K (tCons ta (tCons tb tNil))) (gTup K 2 (gCons (gName j1) (gCons (gTup K 2 (gCons (gName j2) (gCons (gName j3) gNil))) gNil))) ts) tz D σ H := s_forEZ (D := { D with nx := tz D }) h1 h2 hl Pv h0 hs hd
/-- (a, b), a an old thing, b a new one -/
theorem ev_pair {x : α} {y : β} (h1 : Ev ta σ H (Is R x)) (h2 : Ev tb σ H (Is S y)) : Ev (tTup (tCons ta (tCons tb tNil))) σ H (Is (jT2 R S) (x, y)) :=
  ev_tup (ea_2 h1 h2) (fun vs H1 ⟨v, w, e, _⟩ => by rw [e]; show 2 ≤ 100000; decide) fun vs H1 p e ⟨v, w, ev, p1, p2⟩ hn => by
    subst ev
    exact ⟨p, v, w, rfl, upd_same, R.mono (Evl.Ex.new hn) p1, S.mono (Evl.Ex.new hn) p2⟩
/-- x, y = a pair -/
theorem q_pair {x : α} {y : β} {j1 j2 : Nat} (h : Ev te σ H (Is (jT2 R S) (x, y))) (k : ∀ v w H1, Ex H H1 → R.r H1 v x → S.r H1 w y → tz D ((σ.set j1 (some v)).set j2 (some w)) H1) :
    tSeq (tAsg te (gTup K 2 (gCons (gName j1) (gCons (gName j2) gNil)))) tz D σ H := h H (Evl.Ex.refl H) _ fun v H1 e ⟨a, u, w, ev, ha, p1, p2⟩ => by
  subst ev
  exact ⟨a, _, rfl, .inl (.inl ha), rfl, _, _, rfl, _, _, rfl, rfl, k u w H1 e p1 p2⟩
theorem q_pairN {x : α} {y : β} {j1 j2 : Nat} (h : Ev te σ H (Nu (jT2 R S) H (x, y))) (k : ∀ v w H1, Ex H H1 → R.r (newOf H H1) v x → S.r (newOf H H1) w y → tz D ((σ.set j1 (some v)).set j2 (some w)) H1) :
    tSeq (tAsg te (gTup K 2 (gCons (gName j1) (gCons (gName j2) gNil)))) tz D σ H := h H (Evl.Ex.refl H) _ fun v H1 e ⟨a, u, w, ev, ha, p1, p2⟩ => by
  subst ev
  exact ⟨a, _, rfl, .inl (.inl (newOf_ex _ _ ha)), rfl, _, _, rfl, _, _, rfl, rfl, k u w H1 e p1 p2⟩
/-- what is new since H0 and stands in H1, or is new since H3 -/
def gN (H0 H1 H3 H4 : Hp) : Hp := newOf H0 fun a => match H1 a with
  | some o => some o
  | none => newOf H3 H4 a
theorem gN_old {H0 H1 H3 H4 : Hp} : Ex (newOf H0 H1) (gN H0 H1 H3 H4) := fun a o h => by
  obtain ⟨h1, h2⟩ := newOf_some h
  show newOf H0 _ a = some o
  rw [newOf_at h1]
  show (match H1 a with | some o => some o | none => newOf H3 H4 a) = some o
  rw [h2]
theorem gN_new {H0 H1 H3 H4 : Hp} (e : Ex H0 H1) (e3 : Ex H1 H3) : Ex (newOf H3 H4) (gN H0 H1 H3 H4) := fun a o h => by
  have h1 := (newOf_some h).1
  have h2 := fresh0 e3 h1
  show newOf H0 _ a = some o
  rw [newOf_at (fresh0 e h2)]
  show (match H1 a with | some o => some o | none => newOf H3 H4 a) = some o
  rw [h2]
  exact h
theorem gN_nw {H0 H1 H3 H4 : Hp} {p : Addr} (e : Ex H1 H4) (h1 : H1 p = none) (h3 : H3 p ≠ none) : Ex (gN H0 H1 H3 H4) (nw H0 p H4) := fun a o h => by
  obtain ⟨h5, h6⟩ := newOf_some (H0 := H0) h
  have h6 : (match H1 a with | some o => some o | none => newOf H3 H4 a) = some o := h6
  by_cases c : a = p
  · subst c
    rw [h1] at h6
    exact absurd (newOf_some h6).1 h3
  · rw [nw_at h5 c]
    cases h7 : H1 a with
    | some o' =>
      rw [h7] at h6
      cases h6
      exact e _ _ h7
    | none =>
      rw [h7] at h6
      exact (newOf_some h6).2
theorem gN_mono {H0 H1 H3 H4 H5 : Hp} (e : Ex H4 H5) : Ex (gN H0 H1 H3 H4) (gN H0 H1 H3 H5) := fun a o h => by
  obtain ⟨h5, h6⟩ := newOf_some (H0 := H0) h
  have h6 : (match H1 a with | some o => some o | none => newOf H3 H4 a) = some o := h6
  show newOf H0 _ a = some o
  rw [newOf_at h5]
  show (match H1 a with | some o => some o | none => newOf H3 H5 a) = some o
  cases h7 : H1 a with
  | some o' => rw [h7] at h6; exact h6
  | none => rw [h7] at h6; exact newOf_mono e _ _ h6
/-- [e for x in xs if t], of things that are new since H0 -/
theorem ev_lcH {g : TG} {xs : List α} (st : V → α → L2.St) (f : α → Bool) (h' : α → β) (eH : Ex H0 H) (h : Ev tl σ H (Nu (jL R) H0 xs)) (hz : xs.length ≤ 40000) (hg : ∀ (x : α) (v : V) (H3 : Hp) (k : L2.St → Hp → Prop), R.r H3 v x → k (st v x) H3 → g v (wipe σ vs) H3 k) (hw : ∀ v x, wipe (st v x) vs = wipe σ vs)
    (ht : ∀ (i : Nat) (x : α) (v : V) (H3 : Hp), Ex H H3 → xs[i]? = some x → R.r H3 v x → EvT tt (st v x) H3 (f x))
    (he : ∀ (i : Nat) (x : α) (v : V) (H1 H3 : Hp), Ex H H1 → Ex H1 H3 → xs[i]? = some x → R.r (newOf H0 H1) v x → f x = true → Ev te (st v x) H3 (fun u H4 => S.r (gN H0 H1 H3 H4) u (h' x))) :
    Ev (tLc (iList K tl) g tt te vs) σ H (Nu (jL S) H0 ((xs.filter f).map h')) := fun Hs e0 Q q => h Hs e0 _ fun v H1 e1 ⟨a, ws, ev, ha', hp⟩ => by
  subst ev
  have ha := newOf_ex _ _ ha'
  refine ⟨a, rfl, ⟨ws, .inl (.inl ha)⟩, fun Dl hD => ?_⟩
  have e01 := e0.trans e1
  have hD0 := fresh0 (eH.trans e01) hD
  refine lc_list (xs := ws) (fun i H' => Ex H1 H' ∧ ∃ acc, H' Dl = some (.lst acc) ∧ Paired (S.r (nw H0 Dl H')) acc (((xs.take i).filter f).map h')) ⟨Evl.Ex.new hD, [], upd_same, .nil⟩ (fun i H' _ p => .inl (.inl (p.1 _ _ ha))) (fun i w H' hi p => ?_) (fun H' p => ?_)
  · obtain ⟨x, hx, rx⟩ := paired_get hp hi
    obtain ⟨p1, acc, c1, c2⟩ := p
    have e' := e01.trans p1
    have rx' := R.mono (newOf_ex.trans p1) rx
    refine hg x w H' _ rx' ⟨hw w x, ?_⟩
    refine ht i x w H' e' hx rx' H' (Evl.Ex.refl H') _ fun H3 e3 => ?_
    cases hf : f x with
    | true =>
      refine L2.iteT (he i x w H1 H3 e01 (p1.trans e3) hx rx hf H3 (Evl.Ex.refl H3) _ fun y H4 e4 py => ?_)
      have e34 := e3.trans e4
      have hl := paired_len c2
      have py' : S.r (nw H0 Dl H4) y (h' x) := S.mono (gN_nw (p1.trans e34) hD (by rw [e3 _ _ c1]; exact fun z => nomatch z)) py
      refine ⟨acc, e34 _ _ c1, Evl.sz_lt ?_, ex_upd (p1.trans e34) hD, acc ++ [y], upd_same, ?_⟩
      · have h1 : (((xs.take i).filter f).map h').length ≤ xs.length := by
          rw [List.length_map]
          exact Nat.le_trans (List.length_filter_le _ _) (by rw [List.length_take]; omega)
        omega
      · rw [take_filter_yes hx hf]
        exact paired_snoc (paired_mono (fun _ _ z => S.mono ((nw_mono e34).trans nw_upd) z) c2) (S.mono nw_upd py')
    | false =>
      refine L2.iteF ⟨p1.trans e3, acc, e3 _ _ c1, ?_⟩
      rw [take_filter_no hx hf]
      exact paired_mono (fun _ _ z => S.mono (nw_mono e3) z) c2
  · obtain ⟨p1, acc, c1, c2⟩ := p
    have hl := paired_len hp
    rw [hl, List.take_length] at c2
    exact q _ H' (e1.trans p1) (jL_new hD0 c1 (paired_mono (fun _ _ z => S.mono nw_new z) c2))
/-- (a, b), a of the list walked, b new -/
theorem ev_pairH {H1 H3 : Hp} {x : α} {y : β} {v : V} {i : Nat} (e0 : Ex H0 H1) (e1 : Ex H1 H3) (hv : σ[i]? = some (some v)) (h1 : R.r (newOf H0 H1) v x) (h2 : Ev tb σ H3 (Nu S H3 y)) : Ev (tTup (tCons (tVar i) (tCons tb tNil))) σ H3 (fun u H4 => (jT2 R S).r (gN H0 H1 H3 H4) u (x, y)) :=
  ev_tup (ea_2 (ev_v hv) h2) (fun vs H1 ⟨v, w, e, _⟩ => by rw [e]; show 2 ≤ 100000; decide) fun vs H4 p e ⟨v, w, ev, p1, p2⟩ hn => by
    subst ev
    cases p1
    refine ⟨p, _, w, rfl, gN_new e0 e1 _ _ ?_, R.mono gN_old h1, S.mono ((gN_new e0 e1).trans (gN_mono (Evl.Ex.new hn))) p2⟩
    rw [newOf_at (fresh0 e hn), upd_same]
end
end SL
end
section
set_option Elab.async false
set_option linter.all false
set_option maxRecDepth 100000
set_option maxHeartbeats 4000000
set_option autoImplicit false
namespace SL
open PySem PySem.Spec PyProof.Rows L2
section
variable {P : Program} {w : World} {K : PySem.W.Frag} {mg : Str → Option Value} {base : Heap} {C : Addr}

/-! ### nearest -/
theorem AllK.drop {k : CX.Kd} {xs : List (List Int)} (h : CX.AllK k xs) (i : Nat) : CX.AllK k (xs.drop i) := fun z hz => h z (List.mem_of_mem_drop hz)
theorem wholes_at {k : CX.Kd} {xs : List (List Int)} {i : Nat} {y : List Int} (h : (CX.wholesK k xs)[i]? = some y) : y = CX.wholeK k (xs.drop i) := by
  have hi := (List.getElem?_eq_some_iff.mp h).1
  rw [CX.wholesK_len] at hi
  rw [CX.wholesK_get xs i hi] at h
  exact (Option.some.inj h).symm
abbrev spHt (C : Addr) : Sp := sp2 (jK C) jLL jN preX (fun k xs r => r = CX.htK k xs)
theorem c_height_of (T : Tp K mg C) (D : Dfn K mg "height_of" s_height_of) (c_crossings_of : Cal P w K mg base 3 "crossings_of" p_crossings_of (spCr C)) (c_wholes_of : Cal P w K mg base 6 "wholes_of" p_wholes_of (spWs C)) : Cal P w K mg base 7 "height_of" p_height_of (spHt C) := by
  refine cal_mk D sc_height_of (fun _ _ _ _ h => len2 h) (fun _ _ _ _ _ _ us hl => match us, hl with | [_, _], _ => rfl) (fun f cdv A outer s H vs Q E hr h => ?_)
  obtain ⟨v1, v2, k, xs, rfl, hk, hx, ⟨hg, hs⟩, q⟩ := h
  refine ⟨_, (pss_cons (ps_set (i := 2) sc_height_of.nd rfl (.inl rfl) pe_int)
      (pss_cons (ps_for PassesOwn.never rfl (pi_ez (by rfl) T.enumerate (by rfl) T.zip (pa_cons (pv 1) (pa_cons (pe_cal c_wholes_of hr (by rfl) (pa_cons (pv 0) (pa_cons (pv 1) pa_nil))) pa_nil))) (pg_tup rfl (pgs_cons (pg_name (i := 3) sc_height_of.nd rfl (.inl rfl)) (pgs_cons (pg_tup rfl (pgs_cons (pg_name (i := 4) sc_height_of.nd rfl (.inl rfl)) (pgs_cons (pg_name (i := 5) sc_height_of.nd rfl (.inl rfl)) pgs_nil))) pgs_nil))) (pss_one (ps_set (i := 2) sc_height_of.nd rfl (.inl rfl) (pe_op op_sub (pe_op op_add (pv 2) (pe_op op_mul (pe_ifExp (pt_cmpR op_eq (pv 3) pe_int (nomark _)) pe_int pe_int) (pe_cal c_crossings_of (hr.mono (by decide)) (by rfl) (pa_cons (pv 0) (pa_cons (pv 5) pa_nil))))) (pe_cal c_crossings_of (hr.mono (by decide)) (by rfl) (pa_cons (pv 0) (pa_cons (pv 4) pa_nil)))))))
      (pss_one (ps_ret (pv 2))))), ?_⟩
  refine q_set (ev_c (v := .int 0)) fun v H1 e1 p1 => ?_
  cases p1
  have hk1 := (jK C).mono e1 hk
  have hx1 := jLL.mono e1 hx
  refine q_forEZ (R := jLI) (S := jLI) (xs := xs) (ys := CX.wholesK k xs) (ev_var rfl hx1) (isN (ev_c2 (ev_var rfl hk1) (ev_var rfl hx1) ⟨hg, hs⟩)) (CX.wholesK_len xs).symm
    (fun i σ' H' => ∃ a b c : Option V, σ' = [some v1, some v2, some (.int (CX.hT k xs i)), a, b, c] ∧ Ex H H') (fun H2 e2 => ⟨none, none, none, rfl, e1.trans e2⟩) (fun i x y v w σ' H' H2 N eH e2 rx ry hx' hy' pv hN => ?_) (fun σ' H' eH pv => ?_)
  · obtain ⟨a, b, c, rfl, ee⟩ := pv
    have ey := wholes_at hy'
    have hxm := List.mem_of_getElem? hx'
    have okx := hs.all x hxm
    have okd := AllK.drop hs.all i
    have oky : CX.Okk k y := ey ▸ CX.wholeK_ok hg okd
    have ex : x = CX.gL xs i := by
      have hi := (List.getElem?_eq_some_iff.mp hx').1
      rw [gL_some hi] at hx'
      exact (Option.some.inj hx').symm
    have hk2 := (jK C).mono (ee.trans e2) hk
    have hcy : CX.crK k y ≤ 60 := by
      have h1 := CX.whole_suffix hg (xs.take i) (xs.drop i) (by rw [List.take_append_drop]; exact hs.all)
      rw [List.take_append_drop] at h1
      rw [ey]
      exact Nat.le_trans h1 hs.cr
    have hmul : CMul (if i = 0 then 1 else 2) (CX.crK k y : Int) := by
      exact .inr ⟨by omega, by omega⟩
    refine s_set (P := Eqv (.int (CX.hT k xs (i + 1)))) (Ev.eq (v := .int (CX.hT k xs i + (if i = 0 then 1 else 2) * (CX.crK k y : Int) - (CX.crK k x : Int))) (ev_i0 (ev_i0 (ev_v rfl) (ev_i (i := if i = 0 then 1 else 2) (j := (CX.crK k y : Int)) (ev_if (b := decide (i = 0)) ((et_eqI (a := (i : Int)) (b := 0) (ev_v rfl) ev_c).eq (by by_cases c : i = 0 <;> simp [c])) (fun h => ev_c.eq (by rw [if_pos (of_decide_eq_true h)])) (fun h => ev_c.eq (by rw [if_neg (of_decide_eq_false h)]))) (nuN (ev_c2 (ev_var rfl hk2) (ev_var rfl ry) ⟨hg, (oky.sh hg).len⟩)) hmul)) (nuN (ev_c2 (ev_var rfl hk2) (ev_var rfl rx) ⟨hg, (okx.sh hg).len⟩))) ?_) fun v H3 e3 p3 => ?_
    · rw [ey, ex]; rfl
    · cases p3
      exact hN _ H3 e3 ⟨_, _, _, rfl, (ee.trans e2).trans e3⟩
  · obtain ⟨a, b, c, rfl, ee⟩ := pv
    refine s_ret (ev_v rfl) fun v H3 e3 p3 => ?_
    cases p3
    rw [CX.hT_ht hg hs.all hs.ne]
    exact q _ H3 (CX.htK k xs) (ee.trans e3) rfl rfl
abbrev spDp (C : Addr) : Sp := sp2 (jK C) jLL jN preX (fun k xs r => r = CX.htK k (CX.turnK k xs))
theorem c_depth_of (T : Tp K mg C) (D : Dfn K mg "depth_of" s_depth_of) (c_turned_of : Cal P w K mg base 3 "turned_of" p_turned_of (spTo C)) (c_height_of : Cal P w K mg base 7 "height_of" p_height_of (spHt C)) : Cal P w K mg base 8 "depth_of" p_depth_of (spDp C) := by
  refine cal_mk D sc_depth_of (fun _ _ _ _ h => len2 h) (fun _ _ _ _ _ _ us hl => match us, hl with | [_, _], _ => rfl) (fun f cdv A outer s H vs Q E hr h => ?_)
  obtain ⟨v1, v2, k, xs, rfl, hk, hx, hp, q⟩ := h
  have hts := CX.turn_std hp.1 hp.2
  refine ⟨_, (pss_one (ps_ret (pe_cal c_height_of hr (by rfl) (pa_cons (pv 0) (pa_cons (pe_cal c_turned_of (hr.mono (by decide)) (by rfl) (pa_cons (pv 0) (pa_cons (pv 1) pa_nil))) pa_nil))))), ?_⟩
  exact s_ret (ev_c2 (ev_var rfl hk) (isN (ev_c2 (ev_var rfl hk) (ev_var rfl hx) (preXA hp))) ⟨hp.1, hts⟩) fun v H1 e1 ⟨r, po, pr⟩ => q v H1 r e1 po pr
abbrev preL (k : CX.Kd) (xs lots : List (List Int)) (d : CX.Deed) : Prop := preX k xs ∧ lots = CX.wholesK k xs ∧ CX.Fit k xs d
abbrev spLu (C : Addr) : Sp := sp4 (jK C) jLL jLL jD jB preL (fun k xs lots d r => r = CX.lupK k xs d)
theorem c_leads_up (T : Tp K mg C) (D : Dfn K mg "leads_up" s_leads_up) (c_is_crossed : Cal P w K mg base 2 "is_crossed" p_is_crossed (spCrossed C)) (c_opposite_of : Cal P w K mg base 2 "opposite_of" p_opposite_of (spOpp C)) (c_ahead_of : Cal P w K mg base 4 "ahead_of" p_ahead_of (spAhead C)) (c_greedy_of : Cal P w K mg base 5 "greedy_of" p_greedy_of (spGr C)) : Cal P w K mg base 6 "leads_up" p_leads_up (spLu C) := by
  refine cal_mk D sc_leads_up (fun _ _ _ _ h => len4 h) (fun _ _ _ _ _ _ us hl => match us, hl with | [_, _, _, _], _ => rfl) (fun f cdv A outer s H vs Q E hr h => ?_)
  obtain ⟨v1, v2, v3, v4, k, xs, lots, d, rfl, hk, hx, hy, hd, ⟨⟨hg, hs⟩, rfl, hf⟩, q⟩ := h
  have hseam := hf.seam
  have hstep := hf.step
  refine ⟨_, (pss_cons (ps_asg (pv 3) (pg_tup rfl (pgs_cons (pg_name (i := 4) sc_leads_up.nd rfl (.inl rfl)) (pgs_cons (pg_name (i := 5) sc_leads_up.nd rfl (.inl rfl)) (pgs_cons (pg_name (i := 6) sc_leads_up.nd rfl (.inl rfl)) pgs_nil)))))
      (pss_cons (ps_if (pt_cmpR op_eq (pv 5) pe_str (nomark _)) (pss_one (ps_ret (pe_not (pe_cal c_is_crossed (hr.mono (by decide)) (by rfl) (pa_cons (pv 0) (pa_cons (pe_ix ix_list (pv 1) (pv 4) (fun _ _ => rfl)) (pa_cons (pv 6) pa_nil))))))) pss_nil)
      (pss_cons (ps_par (i := 7) (j := 8) (by rfl) sc_leads_up.nd rfl rfl (by decide) rfl rfl (pa_cons (pe_ix ix_list (pv 1) (pe_op op_add (pv 4) pe_int) (fun _ _ => rfl)) (pa_cons (pe_ix ix_list (pv 2) (pe_op op_add (pv 4) pe_int) (fun _ _ => rfl)) pa_nil)) (by rfl))
      (pss_cons (ps_if (pt_not (pt_val (pe_cal c_is_crossed (hr.mono (by decide)) (by rfl) (pa_cons (pv 0) (pa_cons (pe_cal c_opposite_of (hr.mono (by decide)) (by rfl) (pa_cons (pv 0) (pa_cons (pv 7) pa_nil))) (pa_cons (pv 6) pa_nil)))))) (pss_one (ps_ret (pe_cal c_is_crossed (hr.mono (by decide)) (by rfl) (pa_cons (pv 0) (pa_cons (pe_cal c_opposite_of (hr.mono (by decide)) (by rfl) (pa_cons (pv 0) (pa_cons (pv 8) pa_nil))) (pa_cons (pv 6) pa_nil)))))) pss_nil)
      (pss_cons (ps_set (i := 9) sc_leads_up.nd rfl (.inl rfl) (pe_cal c_ahead_of (hr.mono (by decide)) (by rfl) (pa_cons (pv 0) (pa_cons (pv 7) (pa_cons (pv 6) pa_nil)))))
      (pss_cons (ps_set (i := 10) sc_leads_up.nd rfl (.inl rfl) (pe_ifExp (pt_cmpR op_eq (pe_op op_add (pv 4) pe_int) (pe_callB call_len_seq (by rfl) T.len (by decide +kernel) (pa_cons (pv 1) pa_nil)) (nomark _)) (pv 9) (pe_cal c_greedy_of hr (by rfl) (pa_cons (pv 0) (pa_cons (pv 9) (pa_cons (pe_ix ix_list (pv 2) (pe_op op_add (pv 4) pe_int) (fun _ _ => rfl)) pa_nil))))))
      (pss_one (ps_ret (pe_not (pe_cal c_is_crossed (hr.mono (by decide)) (by rfl) (pa_cons (pv 0) (pa_cons (pe_cal c_opposite_of (hr.mono (by decide)) (by rfl) (pa_cons (pv 0) (pa_cons (pv 10) pa_nil))) (pa_cons (pv 6) pa_nil))))))))))))), ?_⟩
  refine q_deed (ev_var rfl hd) fun H1 e1 => ?_
  have hk1 := (jK C).mono e1 hk
  have hx1 := jLL.mono e1 hx
  have hy1 := jLL.mono e1 hy
  have g1 := gL_some (xs := xs) (i := d.seam) (by omega)
  have g2 := gL_some (xs := xs) (i := d.seam + 1) hseam
  have ok1 := hs.all _ (List.mem_of_getElem? g1)
  have ok2 := hs.all _ (List.mem_of_getElem? g2)
  have hwl := CX.wholesK_len (k := k) xs
  have w2 := gL_some (xs := CX.wholesK k xs) (i := d.seam + 1) (by omega)
  have okw2 := CX.wholesK_ok hg xs hs.all _ (List.mem_of_getElem? w2)
  cases hu : d.up with
  | true =>
    refine q_yes ((et_test (ev_eq (ev_v rfl) ev_c rfl)).eq (sd_up true)) fun H2 e2 => ?_
    refine s_ret (ev_not (nuB (ev_c3 (x := k) (y := CX.gL xs d.seam) (z := d.step) (ev_var rfl ((jK C).mono e2 hk1)) (ev_ixL (j := d.seam) (ev_var rfl (jLL.mono e2 hx1)) (ev_v rfl) rfl g1) (ev_v rfl) ⟨hg, (ok1.sh hg).len, hstep⟩))) fun v H3 e3 p3 => ?_
    refine q v H3 _ ((e1.trans e2).trans e3) ?_ p3
    show _ = CX.lupK k xs d
    unfold CX.lupK
    rw [if_pos hu]
  | false =>
    refine q_skip ((et_test (ev_eq (ev_v rfl) ev_c rfl)).eq (sd_up false)) fun H2 e2 => ?_
    have hk2 := (jK C).mono e2 hk1
    have hx2 := jLL.mono e2 hx1
    have hy2 := jLL.mono e2 hy1
    refine q_par (P1 := Is jLI (CX.gL xs (d.seam + 1))) (P2 := fun _ => Is jLI (CX.gL (CX.wholesK k xs) (d.seam + 1))) (ev_ixL (j := d.seam + 1) (ev_var rfl hx2) (ev_i0 (ev_v rfl) ev_c) (by omega) g2) (fun v H3 e3 p3 => ev_ixL (j := d.seam + 1) (ev_var rfl (jLL.mono e3 hy2)) (ev_i0 (ev_v rfl) ev_c) (by omega) w2) fun v w H3 H4 e3 p3 e4 p4 => ?_
    have p3' := jLI.mono e4 p3
    have e34 := e3.trans e4
    have hk4 := (jK C).mono e34 hk2
    have hy4 := jLL.mono e34 hy2
    have hx4 := jLL.mono e34 hx2
    have e14 := ((e1.trans e2).trans e3).trans e4
    cases hh : CX.headK k (CX.gL xs (d.seam + 1)) d.step with
    | false =>
      refine q_yes (et_not (a := false) ((et_B (nuB (ev_c3 (x := k) (y := CX.oppK k (CX.gL xs (d.seam + 1))) (z := d.step) (ev_var rfl hk4) (isN (ev_c2 (x := k) (y := CX.gL xs (d.seam + 1)) (ev_var rfl hk4) (ev_var rfl p3') ⟨hg, ok2.sh hg⟩)) (ev_v rfl) ⟨hg, ((ok2.opp hg).sh hg).len, hstep⟩))).eq hh)) fun H5 e5 => ?_
      have hk5 := (jK C).mono e5 hk4
      refine s_ret (nuB (ev_c3 (x := k) (y := CX.oppK k (CX.gL (CX.wholesK k xs) (d.seam + 1))) (z := d.step) (ev_var rfl hk5) (isN (ev_c2 (x := k) (y := CX.gL (CX.wholesK k xs) (d.seam + 1)) (ev_var rfl hk5) (ev_var rfl (jLI.mono e5 p4)) ⟨hg, okw2.sh hg⟩)) (ev_v rfl) ⟨hg, ((okw2.opp hg).sh hg).len, hstep⟩)) fun v H6 e6 p6 => ?_
      refine q v H6 _ ((e14.trans e5).trans e6) ?_ p6
      show _ = CX.lupK k xs d
      unfold CX.lupK
      rw [if_neg (by rw [hu]; exact Bool.false_ne_true), if_pos hh]
      rfl
    | true =>
      refine q_skip (et_not (a := true) ((et_B (nuB (ev_c3 (x := k) (y := CX.oppK k (CX.gL xs (d.seam + 1))) (z := d.step) (ev_var rfl hk4) (isN (ev_c2 (x := k) (y := CX.gL xs (d.seam + 1)) (ev_var rfl hk4) (ev_var rfl p3') ⟨hg, ok2.sh hg⟩)) (ev_v rfl) ⟨hg, ((ok2.opp hg).sh hg).len, hstep⟩))).eq hh)) fun H5 e5 => ?_
      have hk5 := (jK C).mono e5 hk4
      have okl : CX.Okk k (CX.aheadK k (CX.gL xs (d.seam + 1)) d.step) := ok2.ahead hg hstep
      refine q_set (P := Nu jLI H5 (CX.aheadK k (CX.gL xs (d.seam + 1)) d.step)) (nu1 (ev_c3 (ev_var rfl hk5) (ev_var rfl (jLI.mono e5 p3')) (ev_v rfl) ⟨hg, ok2.sh hg, hstep⟩)) fun u H6 e6 p6 => ?_
      have hk6 := (jK C).mono e6 hk5
      have hx6 := jLL.mono (e5.trans e6) hx4
      have hy6 := jLL.mono (e5.trans e6) hy4
      have okr : CX.Okk k (CX.restK k xs d) := by
        rw [CX.rest_eq hg hs.all hf]
        exact CX.wholeK_ok hg fun z hz => by
          rcases List.mem_cons.mp hz with e | e
          · rw [e]; exact okl
          · exact hs.all z (List.mem_of_mem_drop e)
      refine q_set (P := Is jLI (CX.restK k xs d)) ?_ fun u2 H7 e7 p7 => ?_
      · by_cases c : d.seam + 2 = xs.length
        · have er : CX.restK k xs d = CX.aheadK k (CX.gL xs (d.seam + 1)) d.step := if_pos c
          rw [er]
          exact ev_yes ((et_eqI (ev_i0 (ev_v rfl) ev_c) (ev_lenL lenR (ev_var rfl hx6))).eq (decide_eq_true (by omega))) (ev_var rfl p6.is)
        · have er : CX.restK k xs d = CX.starK k (CX.aheadK k (CX.gL xs (d.seam + 1)) d.step) (CX.gL (CX.wholesK k xs) (d.seam + 2)) := if_neg c
          rw [er]
          have w3 := gL_some (xs := CX.wholesK k xs) (i := d.seam + 2) (by omega)
          have okw3 := CX.wholesK_ok hg xs hs.all _ (List.mem_of_getElem? w3)
          have hc3 : CX.crK k (CX.gL (CX.wholesK k xs) (d.seam + 2)) ≤ 1000 := by
            rw [CX.gL_wholes (by omega)]
            have h1 := CX.whole_suffix hg (xs.take (d.seam + 2)) (xs.drop (d.seam + 2)) (by rw [List.take_append_drop]; exact hs.all)
            rw [List.take_append_drop] at h1
            exact Nat.le_trans h1 (Nat.le_trans hs.cr (by decide))
          exact ev_no ((et_eqI (ev_i0 (ev_v rfl) ev_c) (ev_lenL lenR (ev_var rfl hx6))).eq (decide_eq_false (by omega))) (isN (ev_c3 (ev_var rfl hk6) (ev_var rfl p6.is) (ev_ixL (j := d.seam + 2) (ev_var rfl hy6) (ev_i0 (ev_v rfl) ev_c) (by omega) w3) ⟨hg, okl, okw3, hc3⟩))
      · have hk7 := (jK C).mono e7 hk6
        refine s_ret (ev_not (nuB (ev_c3 (x := k) (y := CX.oppK k (CX.restK k xs d)) (z := d.step) (ev_var rfl hk7) (isN (ev_c2 (x := k) (y := CX.restK k xs d) (ev_var rfl hk7) (ev_var rfl p7) ⟨hg, okr.sh hg⟩)) (ev_v rfl) ⟨hg, ((okr.opp hg).sh hg).len, hstep⟩))) fun v H8 e8 p8 => ?_
        refine q v H8 _ ((((e14.trans e5).trans e6).trans e7).trans e8) ?_ p8
        show _ = CX.lupK k xs d
        unfold CX.lupK
        rw [if_neg (by rw [hu]; exact Bool.false_ne_true), if_neg (by rw [hh]; exact fun z => nomatch z)]
        rfl
end
end SL
end
section
set_option Elab.async false
set_option linter.all false
set_option maxRecDepth 100000
set_option maxHeartbeats 4000000
set_option autoImplicit false
namespace SL
open PySem PySem.Spec PyProof.Rows L2
section
variable {P : Program} {w : World} {K : PySem.W.Frag} {mg : Str → Option Value} {base : Heap} {C : Addr}

/-! ### steps_up, far_above, far_below, way_up -/
abbrev jP : RP (CX.Deed × List (List Int)) := jT2 jD jLL
noncomputable def sups (k : CX.Kd) (xs : List (List Int)) : List (CX.Deed × List (List Int)) := ((CX.deedsK k xs).filter (CX.lupK k xs)).map fun d => (d, CX.behK k xs d)
abbrev spSu (C : Addr) : Sp := sp2 (jK C) jLL (jL jP) preX (fun k xs r => r = sups k xs)
theorem deeds_le {k : CX.Kd} {xs : List (List Int)} (hg : k.good) (h : xs.length ≤ 8) : (CX.deedsK k xs).length ≤ 112 := by
  have h7 := steps7 hg
  have h1 : (CX.deedsK k xs).length ≤ (xs.length - 1) * 14 := CX.flat_len _ 14 (fun j => Nat.le_trans (CX.seamK_len k xs j) (by omega)) (xs.length - 1)
  omega
theorem c_steps_up (T : Tp K mg C) (D : Dfn K mg "steps_up" s_steps_up) (c_behind_deed : Cal P w K mg base 5 "behind_deed" p_behind_deed (spBd C)) (c_deeds_of : Cal P w K mg base 5 "deeds_of" p_deeds_of (spDs C)) (c_wholes_of : Cal P w K mg base 6 "wholes_of" p_wholes_of (spWs C)) (c_leads_up : Cal P w K mg base 6 "leads_up" p_leads_up (spLu C)) : Cal P w K mg base 7 "steps_up" p_steps_up (spSu C) := by
  refine cal_mk D sc_steps_up (fun _ _ _ _ h => len2 h) (fun _ _ _ _ _ _ us hl => match us, hl with | [_, _], _ => rfl) (fun f cdv A outer s H vs Q E hr h => ?_)
  obtain ⟨v1, v2, k, xs, rfl, hk, hx, ⟨hg, hs⟩, q⟩ := h
  have hlen := hs.len
  have hdl := deeds_le (xs := xs) hg hlen
  refine ⟨_, (pss_cons (ps_set (i := 2) sc_steps_up.nd rfl (.inr rfl) (pe_cal c_wholes_of hr (by rfl) (pa_cons (pv 0) (pa_cons (pv 1) pa_nil))))
      (pss_cons (ps_setLc (i := 3) (own := [("deed", 4)]) (by rfl) sc_steps_up.nd rfl rfl (sw_true rfl rfl rfl (by decide +kernel)) (pi_list (pe_cal c_deeds_of (hr.mono (by decide)) (by rfl) (pa_cons (pv 0) (pa_cons (pv 1) pa_nil)))) (blkOk_by (own := [("deed", 4)]) (N := N_steps_up) (sc := defScope s_steps_up) (by decide +kernel)) (fun _ _ _ _ _ => (pg_name (i := 4) sc_steps_up.nd rfl (.inl rfl))) (fun _ _ _ _ _ => pts_one (pt_val (pe_cal c_leads_up hr (by rfl) (pa_cons (pv 0) (pa_cons (pv 1) (pa_cons (pv 2) (pa_cons (pv 4) pa_nil))))))) (fun _ _ _ _ _ => (pv 4)))
      (pss_one (ps_ret (pe_lc (own := [("deed", 4)]) (by rfl) sc_steps_up.nd (pi_list (pv 3)) (blkOk_by (own := [("deed", 4)]) (N := N_steps_up) (sc := defScope s_steps_up) (by decide +kernel)) (fun _ _ _ _ _ => (pg_name (i := 4) sc_steps_up.nd rfl (.inl rfl))) (fun _ _ _ _ _ => pts_nil) (fun _ _ _ _ _ => (pe_tup (pa_cons (pv 4) (pa_cons (pe_cal c_behind_deed (hr.mono (by decide)) (by rfl) (pa_cons (pv 0) (pa_cons (pv 1) (pa_cons (pv 4) pa_nil)))) pa_nil))))))))), ?_⟩
  refine q_set (P := Is jLL (CX.wholesK k xs)) (isN (ev_c2 (ev_var rfl hk) (ev_var rfl hx) ⟨hg, hs⟩)) fun v H1 e1 p1 => ?_
  have hk1 := (jK C).mono e1 hk
  have hx1 := jLL.mono e1 hx
  have hdeeds : Ev _ _ H1 (Nu (jL jD) H (CX.deedsK k xs)) := Ev.imp (nu1 (ev_c2 (E := E0) (pre := preD) (RR := jL jD) (post := fun k xs r => r = CX.deedsK k xs) (ta := tVar 0) (tb := tVar 1) (σ := [some v1, some v2, some v, none, none]) (ev_var rfl hk1) (ev_var rfl hx1) ⟨hg, hs.all, hs.ne, hs.len⟩)) fun v H2 e2 p => (jL jD).mono (newOf_back e1) p
  refine q_set (P := Nu (jL jD) H ((CX.deedsK k xs).filter (CX.lupK k xs))) (Ev.imp (ev_lcH (R := jD) (S := jD) (xs := CX.deedsK k xs) (fun w d => [some v1, some v2, some v, none, some w]) (CX.lupK k xs) (fun d => d) e1 hdeeds (by omega) (fun x w H3 k2 rx hk2 => hk2) (fun _ _ => rfl) (fun i d w H3 e3 hd rd => ?_) (fun i d w H2 H3 e2 e3 hd rd hf => ?_)) fun w H2 e2 p => by rw [List.map_id'] at p; exact p) fun w H2 e2 p2 => ?_
  · exact et_B (nuB (ev_c4 (ev_var rfl ((jK C).mono e3 hk1)) (ev_var rfl (jLL.mono e3 hx1)) (ev_var rfl (jLL.mono e3 p1)) (ev_var rfl rd) ⟨⟨hg, hs⟩, rfl, CX.deeds_fit (List.mem_of_getElem? hd)⟩))
  · exact Ev.imp (ev_v rfl) fun u H4 e4 eu => by cases eu; exact jD.mono gN_old rd
  · have e12 := e1.trans e2
    have hk2 := (jK C).mono e12 hk
    have hx2 := jLL.mono e12 hx
    have hfl : ((CX.deedsK k xs).filter (CX.lupK k xs)).length ≤ 112 := Nat.le_trans (List.length_filter_le _ _) hdl
    refine s_ret (P := Nu (jL jP) H (sups k xs)) (Ev.imp (ev_lcH (R := jD) (S := jP) (xs := (CX.deedsK k xs).filter (CX.lupK k xs)) (fun u d => [some v1, some v2, some v, some w, some u]) (fun _ => true) (fun d => (d, CX.behK k xs d)) e12 (ev_var rfl p2) (by omega) (fun x w H3 k2 rx hk2 => hk2) (fun _ _ => rfl) (fun i d w H3 e3 hd rd => et_yes) (fun i d w H4 H3 e4 e3 hd rd hf => ?_)) fun w H2 e2 p => by rw [filter_all] at p; exact p) fun u H3 e3 p3 => q u H3 _ (e12.trans e3) rfl p3
    have hm := (List.mem_filter.mp (List.mem_of_getElem? hd)).1
    have hfit := CX.deeds_fit hm
    have e24 := e4.trans e3
    exact ev_pairH (R := jD) (S := jLL) (e12.trans e4) e3 rfl rd (nu1 (ev_c3 (x := k) (y := xs) (z := d) (ev_var rfl ((jK C).mono e24 hk2)) (ev_var rfl (jLL.mono e24 hx2)) (ev_var rfl (jD.mono (newOf_ex.trans e3) rd)) ⟨hg, hs.all, hs.len, hfit.seam, hfit.step⟩))
abbrev spFa (C : Addr) : Sp := sp2 (jK C) jLL jN preX (fun k xs r => r = CX.htK k xs)
theorem c_far_above (T : Tp K mg C) (D : Dfn K mg "far_above" s_far_above) (c_height_of : Cal P w K mg base 7 "height_of" p_height_of (spHt C)) (c_check_standing : Cal P w K mg base 9 "check_standing" p_check_standing (spCs C)) : Cal P w K mg base 10 "far_above" p_far_above (spFa C) := by
  refine cal_mk D sc_far_above (fun _ _ _ _ h => len2 h) (fun _ _ _ _ _ _ us hl => match us, hl with | [_, _], _ => rfl) (fun f cdv A outer s H vs Q E hr h => ?_)
  obtain ⟨v1, v2, k, xs, rfl, hk, hx, hp, q⟩ := h
  refine ⟨_, (pss_cons (ps_expr (pe_cal c_check_standing hr (by rfl) (pa_cons (pv 0) (pa_cons (pv 1) pa_nil))))
      (pss_one (ps_ret (pe_cal c_height_of (hr.mono (by decide)) (by rfl) (pa_cons (pv 0) (pa_cons (pv 1) pa_nil)))))), ?_⟩
  refine q_cs (ev_var rfl hk) (ev_var rfl hx) hp fun H1 e1 => ?_
  exact s_ret (ev_c2 (ev_var rfl ((jK C).mono e1 hk)) (ev_var rfl (jLL.mono e1 hx)) hp) fun v H2 e2 ⟨r, po, pr⟩ => q v H2 r (e1.trans e2) po pr
abbrev spFb (C : Addr) : Sp := sp2 (jK C) jLL jN preX (fun k xs r => r = CX.htK k (CX.turnK k xs))
theorem c_far_below (T : Tp K mg C) (D : Dfn K mg "far_below" s_far_below) (c_depth_of : Cal P w K mg base 8 "depth_of" p_depth_of (spDp C)) (c_check_standing : Cal P w K mg base 9 "check_standing" p_check_standing (spCs C)) : Cal P w K mg base 10 "far_below" p_far_below (spFb C) := by
  refine cal_mk D sc_far_below (fun _ _ _ _ h => len2 h) (fun _ _ _ _ _ _ us hl => match us, hl with | [_, _], _ => rfl) (fun f cdv A outer s H vs Q E hr h => ?_)
  obtain ⟨v1, v2, k, xs, rfl, hk, hx, hp, q⟩ := h
  refine ⟨_, (pss_cons (ps_expr (pe_cal c_check_standing hr (by rfl) (pa_cons (pv 0) (pa_cons (pv 1) pa_nil))))
      (pss_one (ps_ret (pe_cal c_depth_of (hr.mono (by decide)) (by rfl) (pa_cons (pv 0) (pa_cons (pv 1) pa_nil)))))), ?_⟩
  refine q_cs (ev_var rfl hk) (ev_var rfl hx) hp fun H1 e1 => ?_
  exact s_ret (ev_c2 (ev_var rfl ((jK C).mono e1 hk)) (ev_var rfl (jLL.mono e1 hx)) hp) fun v H2 e2 ⟨r, po, pr⟩ => q v H2 r (e1.trans e2) po pr
abbrev spWu (C : Addr) : Sp := sp2 (jK C) jLL (jL jD) preX (fun k xs r => CX.UpK k xs r)
theorem c_way_up (T : Tp K mg C) (D : Dfn K mg "way_up" s_way_up) (c_height_of : Cal P w K mg base 7 "height_of" p_height_of (spHt C)) (c_steps_up : Cal P w K mg base 7 "steps_up" p_steps_up (spSu C)) (c_check_standing : Cal P w K mg base 9 "check_standing" p_check_standing (spCs C)) : Cal P w K mg base 10 "way_up" p_way_up (spWu C) := by
  refine cal_mk D sc_way_up (fun _ _ _ _ h => len2 h) (fun _ _ _ _ _ _ us hl => match us, hl with | [_, _], _ => rfl) (fun f cdv A outer s H vs Q E hr h => ?_)
  obtain ⟨v1, v2, k, xs, rfl, hk, hx, hp, q⟩ := h
  obtain ⟨hg, hs⟩ := id hp
  refine ⟨_, (pss_cons (ps_expr (pe_cal c_check_standing hr (by rfl) (pa_cons (pv 0) (pa_cons (pv 1) pa_nil))))
      (pss_cons (ps_par (i := 2) (j := 3) (by rfl) sc_way_up.nd rfl rfl (by decide) rfl rfl (pa_cons (pe_lst pa_nil) (pa_cons (pv 1) pa_nil)) (by rfl))
      (pss_cons (ps_while PassesOwn.never (pt_cmpR op_gt (pe_cal c_height_of (hr.mono (by decide)) (by rfl) (pa_cons (pv 0) (pa_cons (pv 3) pa_nil))) pe_int (nomark _)) (pss_cons (ps_asg (pe_ix ix_list (pe_cal c_steps_up (hr.mono (by decide)) (by rfl) (pa_cons (pv 0) (pa_cons (pv 3) pa_nil))) pe_int (fun _ _ => rfl)) (pg_tup rfl (pgs_cons (pg_name (i := 4) sc_way_up.nd rfl (.inl rfl)) (pgs_cons (pg_name (i := 3) sc_way_up.nd rfl (.inl rfl)) pgs_nil))))
      (pss_one (ps_expr (pe_bm PySem.F.plainAttrs_list PySem.F.slot_list_append PySem.F.type_list_append mt_append (pv 2) (pa_cons (pv 4) pa_nil))))))
      (pss_one (ps_ret (pv 2)))))), ?_⟩
  refine q_cs (ev_var rfl hk) (ev_var rfl hx) hp fun H1 e1 => ?_
  refine q_par (P1 := Nu (jL jD) H1 []) (P2 := fun _ => Eqv v2) ev_nil (fun v H2 e2 p2 => ev_v rfl) fun v w H2 H3 e2 p2 e3 p3 => ?_
  cases p3
  obtain ⟨p, ws0, rfl, hp1, hp2⟩ := p2
  cases hp2
  obtain ⟨hp0', hpl⟩ := newOf_some hp1
  have hp0 := fresh0 e1 hp0'
  have e12 := e1.trans e2
  have e13 := e12.trans e3
  refine q_while (fun m σ' H' => ∃ (left : List (List Int)) (w : V) (ws : List V) (ds : List CX.Deed) (y : Option V), m = CX.htK k left ∧ σ' = [some v1, some v2, some (.ref p), some w, y] ∧ Ex H H' ∧ H' p = some (.lst ws) ∧ Paired (jD.r (nw H p H')) ws ds ∧ jLL.r (wo p H') w left ∧ CX.LeadsK k xs ds left ∧ ds.length + CX.htK k left = CX.htK k xs ∧ CX.StdK k left ∧ left.length = xs.length ∧ CX.wholeK k left = CX.wholeK k xs) (CX.htK k xs)
    ⟨xs, v2, [], [], none, rfl, rfl, e13, e3 _ _ hpl, .nil, jLL.mono (wo_old e13 hp0) hx, CX.LeadsK.nil hg, Nat.zero_add _, hs, rfl, rfl⟩ fun m σ' H' pv => ?_
  obtain ⟨left, w1, ws, ds, y, rfl, rfl, ee, hpa, hws, hlf, hle, hsum, hst, hll, hwh⟩ := pv
  have hk' := (jK C).mono ee hk
  have hleft := jLL.mono wo_ex hlf
  have hle960 := hs.ht_le hg
  have hwl := paired_len hws
  by_cases h0 : CX.htK k left = 0
  · refine ⟨false, (et_i (nuN (ev_c2 (ev_var rfl hk') (ev_var rfl hleft) ⟨hg, hst⟩)) ev_c).eq (decide_eq_false (by rw [h0]; exact fun z => absurd z (Int.lt_irrefl _))), (fun e => nomatch e), fun _ H4 e4 => ?_⟩
    have e0 : left = CX.topK k (CX.wholeK k left) (left.length - 1) := by
      rcases Nat.eq_zero_or_pos (CX.lastK k left) with z | z
      · exact CX.last_zero hg hst.all hst.ne z
      · exfalso
        have hlt := CX.lastK_lt (k := k) hst.ne
        obtain ⟨s, hr0, hheads⟩ := List.exists_cons_of_ne_nil (CX.heads_some hg (hst.all _ (CX.gL_in hlt)) (CX.lastAt_ne (left.length - 1) z))
        have hsm : s ∈ CX.headsK k (CX.gL left (CX.lastK k left)) := by rw [hheads]; exact List.mem_cons_self
        have hdn := CX.lup_up hg hst.all (CX.next_fit hst.ne z hsm) (CX.next_lup hg hst.all hst.ne z hsm)
        omega
    have ht : CX.UpK k xs ds := by
      refine ⟨?_, by omega⟩
      rw [← hwh, ← hll, ← e0]
      exact hle
    refine s_ret (ev_var (P := Nu (jL jD) H ds) rfl ?_) fun v5 H5 e5 p5 => q v5 H5 _ ((ee.trans e4).trans e5) ht p5
    exact jL_new hp0 (e4 _ _ hpa) (paired_mono (fun _ _ z => jD.mono ((nw_mono e4).trans nw_new) z) hws)
  · have hpos : 0 < CX.htK k left := Nat.pos_of_ne_zero h0
    refine ⟨true, (et_i (nuN (ev_c2 (ev_var rfl hk') (ev_var rfl hleft) ⟨hg, hst⟩)) ev_c).eq (decide_eq_true (by omega)), fun _ H4 e4 => ?_, (fun e => nomatch e)⟩
    obtain ⟨d0, hd0, hl0⟩ := CX.lup_some hg hst.all hst.ne hpos
    obtain ⟨d, rest, hfl⟩ := List.exists_cons_of_ne_nil (List.ne_nil_of_mem (List.mem_filter.mpr ⟨hd0, hl0⟩))
    have hdm : d ∈ (CX.deedsK k left).filter (CX.lupK k left) := by rw [hfl]; exact List.mem_cons_self
    obtain ⟨hdm1, hdl⟩ := List.mem_filter.mp hdm
    have hfit := CX.deeds_fit hdm1
    have hdn := CX.lup_up hg hst.all hfit hdl
    have hdd := hfit.dd hg
    have h00 : (sups k left)[0]? = some (d, CX.behK k left d) := by
      show (((CX.deedsK k left).filter (CX.lupK k left)).map _)[0]? = _
      rw [hfl]; rfl
    have hk4 := (jK C).mono e4 hk'
    have hl4 := jLL.mono e4 hleft
    refine ⟨_, fun _ _ h => h, ?_⟩
    refine q_pairN (R := jD) (S := jLL) (x := d) (y := CX.behK k left d) (ev_ixLn (j := 0) (xs := sups k left) (H0 := H4) (nu1 (ev_c2 (x := k) (y := left) (ev_var rfl hk4) (ev_var rfl hl4) ⟨hg, hst⟩)) ev_c rfl h00) fun dv w2 H5 e5 p5 p6 => ?_
    have e45 := e4.trans e5
    have hpa5 := e45 _ _ hpa
    have hp4 : H4 p ≠ none := by rw [e4 _ _ hpa]; exact fun z => nomatch z
    refine s_app (P := Eqv dv) (l := p) (xs := ws) hpa5 (ev_v rfl) (ev_v rfl) (by omega) fun dv2 H6 e6 p7 => ?_
    cases p7
    have e46 := e45.trans e6
    refine ⟨_, ?_, CX.behK k left d, w2, ws ++ [dv], ds ++ [d], some dv, rfl, rfl, ex_upd (ee.trans e46) hp0, upd_same, ?_, ?_, hle.snoc hdd, ?_, hdd.std hst, by rw [hdd.length]; exact hll, by rw [hdd.whole hst.all]; exact hwh⟩
    · omega
    · exact paired_snoc (paired_mono (fun _ _ z => jD.mono ((nw_mono e46).trans nw_upd) z) hws) (jD.mono (((nw_of (ee.trans e4) hp4).trans (nw_mono e6)).trans nw_upd) p5)
    · exact jLL.mono (((wo_new hp4).trans (wo_mono e6)).trans wo_upd) p6
    · rw [List.length_append]
      show ds.length + 1 + _ = _
      omega
end
end SL
end
section
set_option Elab.async false
set_option linter.all false
set_option maxRecDepth 100000
set_option maxHeartbeats 4000000
set_option autoImplicit false
namespace SL
open PySem PySem.Spec PyProof.Rows L2
section
variable {P : Program} {w : World} {K : PySem.W.Frag} {mg : Str → Option Value} {base : Heap} {C : Addr}

/-! ### the law's own kinds: (name, size) -/
def jT : RP CX.Kd := ⟨fun H v k => ∃ a, v = .ref a ∧ H a = some (.tup [.str (nmS k.nm), .int k.n]), fun e ⟨a, h1, h2⟩ => ⟨a, h1, e _ _ h2⟩⟩
section
variable {σ : L2.St} {H : Hp} {ta : TE} {k : CX.Kd} {b : Bool}
theorem ev_k0 (h : Ev ta σ H (Is jT k)) : Ev (tOp (rIxT K) ta (tC (.int 0))) σ H (Eqv (.str (nmS k.nm))) :=
  ev_opG h (ev_c (v := .int 0)) fun u w H1 _ ⟨a, h1, h2⟩ h4 Q q => by
    cases h1; cases h4
    exact ⟨a, _, 0, _, rfl, rfl, .inl (.inl h2), rfl, q _ H1 (Evl.Ex.refl H1) rfl⟩
theorem ev_k1 (h : Ev ta σ H (Is jT k)) : Ev (tOp (rIxT K) ta (tC (.int 1))) σ H (Eqv (.int k.n)) :=
  ev_opG h (ev_c (v := .int 1)) fun u w H1 _ ⟨a, h1, h2⟩ h4 Q q => by
    cases h1; cases h4
    exact ⟨a, _, 1, _, rfl, rfl, .inl (.inl h2), rfl, q _ H1 (Evl.Ex.refl H1) rfl⟩
theorem et_kM (h : Ev ta σ H (Is jT k)) (e : decide (k.nm = .mirror) = b := by rfl) : EvT (tTest (tOp rEq (tOp (rIxT K) ta (tC (.int 0))) (tC (.str "mirror")))) σ H b := (et_mir (ev_k0 h)).eq e
theorem et_kR (h : Ev ta σ H (Is jT k)) (e : decide (k.nm = .ring) = b := by rfl) : EvT (tTest (tOp rEq (tOp (rIxT K) ta (tC (.int 0))) (tC (.str "ring")))) σ H b := (et_ring (ev_k0 h)).eq e
theorem ev_kM (h : Ev ta σ H (Is jT k)) (e : decide (k.nm = .mirror) = b := by rfl) : Ev (tOp rEq (tOp (rIxT K) ta (tC (.int 0))) (tC (.str "mirror"))) σ H (Eqv (.bl b)) := (ev_mir (ev_k0 h)).eq (by rw [e])
theorem ev_kP (h : Ev ta σ H (Is jT k)) (e : decide (k.nm = .plain) = b := by rfl) : Ev (tOp rEq (tOp (rIxT K) ta (tC (.int 0))) (tC (.str "plain"))) σ H (Eqv (.bl b)) := (ev_plain (ev_k0 h)).eq (by rw [e])
theorem ev_kF {r : List V → Hp → VK → Prop} (hr : ∀ (b : Bool) (H : Hp) (Q : VK), Q (.int (if b then 1 else 0)) H → r [.bl b] H Q) (h : Ev ta σ H (Is jT k)) : Ev (tCB r (tCons (tOp rEq (tOp (rIxT K) ta (tC (.int 0))) (tC (.str "mirror"))) tNil)) σ H (Eqv (.int (k.first : Int))) :=
  (ev_intB hr (ev_kM (b := decide (k.nm = .mirror)) h)).eq (by rw [b2i, first_if])
end
abbrev spLSteps : Sp := sp1 jT (jL jN) (fun k => k.good) (fun k r => r = List.range k.steps)
theorem c__law_steps (T : Tp K mg C) (D : Dfn K mg "_law_steps" s__law_steps) : Cal P w K mg base 1 "_law_steps" p__law_steps spLSteps := by
  refine cal_mk D sc__law_steps (fun _ _ _ _ h => len1 h) (fun _ _ _ _ _ _ us hl => match us, hl with | [_], _ => rfl) (fun f cdv A outer s H vs Q E hr h => ?_)
  obtain ⟨v, k, rfl, hk, hg, q⟩ := h
  refine ⟨_, (pss_one (ps_ret (pe_listRg rfl (by rfl) T.list (prg_1 (by rfl) T.range (pe_op op_sub (pe_ix ix_tup (pv 0) pe_int (fun _ _ => rfl)) (pe_callTy call_int1 (by rfl) T.int (by decide +kernel) (pa_cons (pe_cmpR op_eq (pe_ix ix_tup (pv 0) pe_int (fun _ _ => rfl)) pe_str (nomark _)) pa_nil))))))), ?_⟩
  have hn := n_le hg
  have e1 : (k.n : Int) - (if k.nm = .plain then 1 else 0) = (k.steps : Int) := by
    obtain ⟨nm, n⟩ := k
    have hn : 1 ≤ n ∧ n ≤ 7 := hn
    cases nm
    · show (n : Int) - (if CX.Nm.plain = CX.Nm.plain then 1 else 0) = ((n - 1 : Nat) : Int)
      rw [if_pos rfl]
      omega
    · show (n : Int) - (if CX.Nm.mirror = CX.Nm.plain then 1 else 0) = ((n : Nat) : Int)
      rw [if_neg (fun e => nomatch e)]
      omega
    · show (n : Int) - (if CX.Nm.ring = CX.Nm.plain then 1 else 0) = ((n : Nat) : Int)
      rw [if_neg (fun e => nomatch e)]
      omega
  have hs7 := steps7 hg
  refine s_ret (ev_rg1 (b := (k.steps : Int)) (xs := (List.range k.steps).map fun (n : Nat) => (n : Int)) ((ev_i0 (ev_k1 (ev_var rfl hk)) (ev_intB (fun b H Q q => .inr ⟨b, rfl, q⟩) (ev_kP (b := decide (k.nm = .plain)) (ev_var rfl hk)))).eq (congrArg V.int (by rw [← e1]; simp))) (.of_le (by omega) (by omega) (by omega) (by omega)) rfl) fun v H1 e p => q v H1 _ e rfl (jLI_LN p)
abbrev spLStart : Sp := sp1 jT jLI (fun k => k.good) (fun k r => r = k.start)
theorem c__law_start (T : Tp K mg C) (D : Dfn K mg "_law_start" s__law_start) : Cal P w K mg base 1 "_law_start" p__law_start spLStart := by
  refine cal_mk D sc__law_start (fun _ _ _ _ h => len1 h) (fun _ _ _ _ _ _ us hl => match us, hl with | [_], _ => rfl) (fun f cdv A outer s H vs Q E hr h => ?_)
  obtain ⟨v, k, rfl, hk, hg, q⟩ := h
  refine ⟨_, (pss_one (ps_ret (pe_listRg rfl (by rfl) T.list (prg_2 (by rfl) T.range (pe_callTy call_int1 (by rfl) T.int (by decide +kernel) (pa_cons (pe_cmpR op_eq (pe_ix ix_tup (pv 0) pe_int (fun _ _ => rfl)) pe_str (nomark _)) pa_nil)) (pe_op op_add (pe_ix ix_tup (pv 0) pe_int (fun _ _ => rfl)) (pe_callTy call_int1 (by rfl) T.int (by decide +kernel) (pa_cons (pe_cmpR op_eq (pe_ix ix_tup (pv 0) pe_int (fun _ _ => rfl)) pe_str (nomark _)) pa_nil))))))), ?_⟩
  have hn := n_le hg
  have hf := first_le k
  exact s_ret (ev_rg2 (xs := k.start) (ev_kF (fun b H Q q => .inr ⟨b, rfl, q⟩) (ev_var rfl hk)) (ev_i0 (ev_k1 (ev_var rfl hk)) (ev_kF (fun b H Q q => .inr ⟨b, rfl, q⟩) (ev_var rfl hk))) (.of_le (by omega) (by omega) (by omega) (by omega)) (by rw [show (k.n : Int) + (k.first : Int) = (k.first : Int) + (k.n : Int) by omega]; exact start_rg k)) fun v H1 e p => q v H1 _ e rfl p
abbrev spLFall : Sp := sp3 jT jLI jN jB preS (fun k o s r => r = CX.fallK k o s)
theorem c__law_fall (T : Tp K mg C) (D : Dfn K mg "_law_fall" s__law_fall) : Cal P w K mg base 1 "_law_fall" p__law_fall spLFall := by
  refine cal_mk D sc__law_fall (fun _ _ _ _ h => len3 h) (fun _ _ _ _ _ _ us hl => match us, hl with | [_, _, _], _ => rfl) (fun f cdv A outer s H vs Q E hr h => ?_)
  obtain ⟨v1, v2, v3, k, o, st, rfl, hk, ho, hs, ⟨hg, hl, hst⟩, q⟩ := h
  refine ⟨_, (pss_cons (ps_if (pt_cmpR op_eq (pe_ix ix_tup (pv 0) pe_int (fun _ _ => rfl)) pe_str (nomark _)) (pss_one (ps_ret (pe_ifExp (pt_cmpR op_eq (pv 2) pe_int (nomark _)) (pe_cmpR op_lt (pe_ix ix_list (pv 1) pe_int (fun _ _ => rfl)) pe_int (nomark _)) (pe_cmpR op_gt (pe_ix ix_list (pv 1) (pe_op op_sub (pv 2) pe_int) (fun _ _ => rfl)) (pe_ix ix_list (pv 1) (pv 2) (fun _ _ => rfl)) (nomark _))))) pss_nil)
      (pss_cons (ps_if (PW.pt (pw_and (pt_cmpR op_eq (pe_ix ix_tup (pv 0) pe_int (fun _ _ => rfl)) pe_str (nomark _)) (pw_and1 (pt_cmpR op_eq (pv 2) (pe_op op_sub (pe_ix ix_tup (pv 0) pe_int (fun _ _ => rfl)) pe_int) (nomark _))))) (pss_one (ps_ret (pe_cmpR op_gt (pe_ix ix_list (pv 1) (pv 2) (fun _ _ => rfl)) (pe_op op_add (pe_ix ix_list (pv 1) pe_int (fun _ _ => rfl)) (pe_ix ix_tup (pv 0) pe_int (fun _ _ => rfl))) (nomark _)))) pss_nil)
      (pss_one (ps_ret (pe_cmpR op_gt (pe_ix ix_list (pv 1) (pv 2) (fun _ _ => rfl)) (pe_ix ix_list (pv 1) (pe_op op_add (pv 2) pe_int) (fun _ _ => rfl)) (nomark _)))))), ?_⟩
  have hn := n_le hg
  have hle := steps_le k
  have ix : ∀ (H1 : Hp) (e : Ex H H1) (te : TE) (i : Int) (j : Nat), Ev te (L2.start N__law_fall [v1, v2, v3]) H1 (Eqv (.int i)) → i = (j : Int) → j < o.length → Ev (tOp (rIxL K) (tVar 1) te) (L2.start N__law_fall [v1, v2, v3]) H1 (Eqv (.int (CX.gI o j))) := fun H1 e te i j h ei hj => ev_ixI (ev_var rfl (jLI.mono e ho)) h ei (gI_some hj)
  cases hs
  obtain ⟨nm, n⟩ := k
  have hl2 : o.length = n := hl
  have hn2 : 1 ≤ n ∧ n ≤ 7 := hn
  have hs2 : st < CX.Kd.steps ⟨nm, n⟩ := hst
  cases nm with
  | mirror =>
    have hs3 : st < n := hs2
    refine q_yes (et_kM (ev_var rfl hk)) fun H1 e1 => ?_
    refine s_ret (P := Eqv (.bl (CX.fallK ⟨.mirror, n⟩ o st))) ?_ fun v H2 e2 p => q v H2 _ (e1.trans e2) rfl p
    by_cases c : st = 0
    · refine (ev_yes ((et_eqI (ev_v rfl) ev_c).eq (decide_eq_true (by omega))) (ev_i0 (ix H1 e1 _ _ 0 ev_c rfl (by omega)) ev_c)).eq ?_
      subst c
      rfl
    · refine (ev_no ((et_eqI (ev_v rfl) ev_c).eq (decide_eq_false (by omega))) (ev_i0 (ix H1 e1 _ _ (st - 1) (ev_i0 (ev_v rfl) ev_c) (by omega) (by omega)) (ix H1 e1 _ _ st (ev_v rfl) rfl (by omega)))).eq ?_
      show V.bl _ = V.bl (if st = 0 then _ else _)
      rw [if_neg c]
  | ring =>
    have hs3 : st < n := hs2
    refine q_skip (et_kM (ev_var rfl hk)) fun H1 e1 => ?_
    have hk1 := jT.mono e1 hk
    have ho1 := jLI.mono e1 ho
    by_cases c : st + 1 = n
    · refine q_yes (et_and1 (et_kR (ev_var rfl hk1)) ((et_eqI (ev_v rfl) (ev_i0 (ev_k1 (ev_var rfl hk1)) ev_c)).eq (decide_eq_true (by omega)))) fun H2 e2 => ?_
      refine s_ret (P := Eqv (.bl (CX.fallK ⟨.ring, n⟩ o st))) ?_ fun v H3 e3 p => q v H3 _ ((e1.trans e2).trans e3) rfl p
      refine (ev_i0 (ix H2 (e1.trans e2) _ _ st (ev_v rfl) rfl (by omega)) (ev_i0 (ix H2 (e1.trans e2) _ _ 0 ev_c rfl (by omega)) (ev_k1 (ev_var rfl (jT.mono e2 hk1))))).eq ?_
      show V.bl _ = V.bl (if st + 1 = o.length then _ else _)
      rw [if_pos (by omega), hl2]
    · refine q_skip (et_and1 (et_kR (ev_var rfl hk1)) ((et_eqI (ev_v rfl) (ev_i0 (ev_k1 (ev_var rfl hk1)) ev_c)).eq (decide_eq_false (by omega)))) fun H2 e2 => ?_
      refine s_ret (P := Eqv (.bl (CX.fallK ⟨.ring, n⟩ o st))) ?_ fun v H3 e3 p => q v H3 _ ((e1.trans e2).trans e3) rfl p
      refine (ev_i0 (ix H2 (e1.trans e2) _ _ st (ev_v rfl) rfl (by omega)) (ix H2 (e1.trans e2) _ _ (st + 1) (ev_i0 (ev_v rfl) ev_c) (by omega) (by omega))).eq ?_
      show V.bl _ = V.bl (if st + 1 = o.length then _ else _)
      rw [if_neg (by omega)]
  | plain =>
    have hs3 : st < n - 1 := hs2
    refine q_skip (et_kM (ev_var rfl hk)) fun H1 e1 => ?_
    have hk1 := jT.mono e1 hk
    refine q_skip (et_and0 (et_kR (ev_var rfl hk1))) fun H2 e2 => ?_
    refine s_ret (P := Eqv (.bl (CX.fallK ⟨.plain, n⟩ o st))) ?_ fun v H3 e3 p => q v H3 _ ((e1.trans e2).trans e3) rfl p
    exact ev_i0 (ix H2 (e1.trans e2) _ _ st (ev_v rfl) rfl (by omega)) (ix H2 (e1.trans e2) _ _ (st + 1) (ev_i0 (ev_v rfl) ev_c) (by omega) (by omega))
abbrev spLBy : Sp := sp3 jT jLI jN jLI preS (fun k o s r => r = CX.byK k o s)
theorem c__law_by (T : Tp K mg C) (D : Dfn K mg "_law_by" s__law_by) : Cal P w K mg base 1 "_law_by" p__law_by spLBy := by
  refine cal_mk D sc__law_by (fun _ _ _ _ h => len3 h) (fun _ _ _ _ _ _ us hl => match us, hl with | [_, _, _], _ => rfl) (fun f cdv A outer s H vs Q E hr h => ?_)
  obtain ⟨v1, v2, v3, k, o, st, rfl, hk, ho, hs, ⟨hg, hl, hst⟩, q⟩ := h
  refine ⟨_, (pss_cons (ps_set (i := 3) sc__law_by.nd rfl (.inl rfl) (pe_callTy call_list_of (by rfl) T.list (by decide +kernel) (pa_cons (pv 1) pa_nil)))
      (pss_cons (ps_if (PW.pt (pw_and (pt_cmpR op_eq (pe_ix ix_tup (pv 0) pe_int (fun _ _ => rfl)) pe_str (nomark _)) (pw_and1 (pt_cmpR op_eq (pv 2) pe_int (nomark _))))) (pss_one (ps_asg (pe_op op_sub pe_int (pe_ix ix_list (pv 1) pe_int (fun _ _ => rfl))) (pg_sub (pv 3) pe_int set_list))) (pss_one (ps_if (PW.pt (pw_and (pt_cmpR op_eq (pe_ix ix_tup (pv 0) pe_int (fun _ _ => rfl)) pe_str (nomark _)) (pw_and1 (pt_cmpR op_eq (pv 2) (pe_op op_sub (pe_ix ix_tup (pv 0) pe_int (fun _ _ => rfl)) pe_int) (nomark _))))) (pss_one (ps_asg (pe_tup (pa_cons (pe_op op_sub (pe_ix ix_list (pv 1) (pv 2) (fun _ _ => rfl)) (pe_ix ix_tup (pv 0) pe_int (fun _ _ => rfl))) (pa_cons (pe_op op_add (pe_ix ix_list (pv 1) pe_int (fun _ _ => rfl)) (pe_ix ix_tup (pv 0) pe_int (fun _ _ => rfl))) pa_nil))) (pg_tup rfl (pgs_cons (pg_sub (pv 3) pe_int set_list) (pgs_cons (pg_sub (pv 3) (pv 2) set_list) pgs_nil))))) (pss_cons (ps_set (i := 4) sc__law_by.nd rfl (.inl rfl) (pe_op op_sub (pv 2) (pe_callTy call_int1 (by rfl) T.int (by decide +kernel) (pa_cons (pe_cmpR op_eq (pe_ix ix_tup (pv 0) pe_int (fun _ _ => rfl)) pe_str (nomark _)) pa_nil))))
      (pss_one (ps_asg (pe_tup (pa_cons (pe_ix ix_list (pv 1) (pe_op op_add (pv 4) pe_int) (fun _ _ => rfl)) (pa_cons (pe_ix ix_list (pv 1) (pv 4) (fun _ _ => rfl)) pa_nil))) (pg_tup rfl (pgs_cons (pg_sub (pv 3) (pv 4) set_list) (pgs_cons (pg_sub (pv 3) (pe_op op_add (pv 4) pe_int) set_list) pgs_nil)))))))))
      (pss_one (ps_ret (pv 3))))), ?_⟩
  cases hs
  refine q_set (ev_listI lisR (ev_var rfl ho)) fun v H1 e1 p1 => ?_
  obtain ⟨p, rfl, hp0, hp⟩ := nuLI p1
  have hk1 := jT.mono e1 hk
  have ho1 := jLI.mono e1 ho
  have hn := n_le hg
  have hle := steps_le k
  have fin : ∀ (H2 : Hp) (r : List Int) (σ : L2.St), Ex H H2 → H2 p = some (.lst (r.map V.int)) → r = CX.byK k o st → σ[3]? = some (some (V.ref p)) → tRet (tVar 3) { nx := fun x H' => Q V.non H', rt := Q } σ H2 := fun H2 r σ e2 h2 er h3 =>
    s_ret (ev_v h3) fun v H3 e3 pv => by
      cases pv
      exact q _ H3 _ (e2.trans e3) er (jLI_new hp0 (e3 _ _ h2))
  obtain ⟨nm, n⟩ := k
  have hl2 : o.length = n := hl
  have hn2 : 1 ≤ n ∧ n ≤ 7 := hn
  have hs2 : st < CX.Kd.steps ⟨nm, n⟩ := hst
  cases nm with
  | mirror =>
    have hs3 : st < n := hs2
    by_cases c : st = 0
    · refine q_yes (et_and1 (et_kM (ev_var rfl hk1)) ((et_eqI (ev_v rfl) ev_c).eq (decide_eq_true (by omega)))) fun H2 e2 => ?_
      refine s_setI (xs := o) (j := 0) (e2 _ _ hp) ((ev_i0 ev_c (ev_ixI (j := 0) (ev_var rfl (jLI.mono e2 ho1)) ev_c rfl (gI_some (by omega)))).eq (congrArg V.int (Int.zero_sub _))) (ev_v rfl) ev_c rfl (by omega) fun H3 e3 => ?_
      refine fin _ _ _ (ex_upd ((e1.trans e2).trans e3) hp0) upd_same ?_ rfl
      subst c
      rfl
    · refine q_no (et_and1 (et_kM (ev_var rfl hk1)) ((et_eqI (ev_v rfl) ev_c).eq (decide_eq_false (by omega)))) fun H2 e2 => ?_
      have hk2 := jT.mono e2 hk1
      have ho2 := jLI.mono e2 ho1
      refine s_no (et_and0 (et_kR (ev_var rfl hk2))) fun H3 e3 => ?_
      refine q_set (P := Eqv (.int ((st - 1 : Nat) : Int))) ((ev_i0 (ev_v rfl) (ev_intB (fun b H Q q => .inr ⟨b, rfl, q⟩) (ev_kM (b := true) (ev_var rfl (jT.mono e3 hk2))))).eq (congrArg V.int (by show (st : Int) - 1 = _; omega))) fun v4 H4 e4 p4 => ?_
      cases p4
      have ho4 := jLI.mono (e3.trans e4) ho2
      refine s_set2I (xs := o) (j1 := st - 1) (j2 := st) (((e2.trans e3).trans e4) _ _ hp) (ev_ixI (j := st) (ev_var rfl ho4) (ev_i0 (ev_v rfl) ev_c) (by omega) (gI_some (by omega))) (ev_ixI (j := st - 1) (ev_var rfl ho4) (ev_v rfl) rfl (gI_some (by omega))) (fun _ => ev_v rfl) (fun _ => ev_v rfl) (fun _ => ev_v rfl) (fun _ => ev_i0 (ev_v rfl) ev_c) rfl (by omega) (by omega) (by omega) H (((e1.trans e2).trans e3).trans e4) hp0 fun H5 e5 h5 => ?_
      refine fin _ _ _ e5 h5 ?_ rfl
      show _ = if st = 0 then _ else CX.sw o (st - 1)
      rw [if_neg c]
      unfold CX.sw
      rw [show st - 1 + 1 = st by omega]
  | ring =>
    have hs3 : st < n := hs2
    refine q_no (et_and0 (et_kM (ev_var rfl hk1))) fun H2 e2 => ?_
    have hk2 := jT.mono e2 hk1
    have ho2 := jLI.mono e2 ho1
    by_cases c : st + 1 = n
    · refine s_yes (et_and1 (et_kR (ev_var rfl hk2)) ((et_eqI (ev_v rfl) (ev_i0 (ev_k1 (ev_var rfl hk2)) ev_c)).eq (decide_eq_true (by omega)))) fun H3 e3 => ?_
      have ho3 := jLI.mono e3 ho2
      refine s_set2I (xs := o) (j1 := 0) (j2 := st) ((e2.trans e3) _ _ hp) (ev_i0 (ev_ixI (j := st) (ev_var rfl ho3) (ev_v rfl) rfl (gI_some (by omega))) (ev_k1 (ev_var rfl (jT.mono e3 hk2)))) (ev_i0 (ev_ixI (j := 0) (ev_var rfl ho3) ev_c rfl (gI_some (by omega))) (ev_k1 (ev_var rfl (jT.mono e3 hk2)))) (fun _ => ev_v rfl) (fun _ => ev_c) (fun _ => ev_v rfl) (fun _ => ev_v rfl) rfl rfl (by omega) (by omega) H ((e1.trans e2).trans e3) hp0 fun H5 e5 h5 => ?_
      refine fin _ _ _ e5 h5 ?_ rfl
      show _ = if st + 1 = o.length then _ else _
      rw [if_pos (by omega), hl2]
    · refine s_no (et_and1 (et_kR (ev_var rfl hk2)) ((et_eqI (ev_v rfl) (ev_i0 (ev_k1 (ev_var rfl hk2)) ev_c)).eq (decide_eq_false (by omega)))) fun H3 e3 => ?_
      refine q_set (P := Eqv (.int (st : Int))) ((ev_i0 (ev_v rfl) (ev_intB (fun b H Q q => .inr ⟨b, rfl, q⟩) (ev_kM (b := false) (ev_var rfl (jT.mono e3 hk2))))).eq (congrArg V.int (by show (st : Int) - 0 = _; omega))) fun v4 H4 e4 p4 => ?_
      cases p4
      have ho4 := jLI.mono (e3.trans e4) ho2
      refine s_set2I (xs := o) (j1 := st) (j2 := st + 1) (((e2.trans e3).trans e4) _ _ hp) (ev_ixI (j := st + 1) (ev_var rfl ho4) (ev_i0 (ev_v rfl) ev_c) (by omega) (gI_some (by omega))) (ev_ixI (j := st) (ev_var rfl ho4) (ev_v rfl) rfl (gI_some (by omega))) (fun _ => ev_v rfl) (fun _ => ev_v rfl) (fun _ => ev_v rfl) (fun _ => ev_i0 (ev_v rfl) ev_c) rfl (by omega) (by omega) (by omega) H (((e1.trans e2).trans e3).trans e4) hp0 fun H5 e5 h5 => ?_
      refine fin _ _ _ e5 h5 ?_ rfl
      show _ = if st + 1 = o.length then _ else CX.sw o st
      rw [if_neg (by omega)]
      rfl
  | plain =>
    have hs3 : st < n - 1 := hs2
    refine q_no (et_and0 (et_kM (ev_var rfl hk1))) fun H2 e2 => ?_
    have hk2 := jT.mono e2 hk1
    have ho2 := jLI.mono e2 ho1
    refine s_no (et_and0 (et_kR (ev_var rfl hk2))) fun H3 e3 => ?_
    refine q_set (P := Eqv (.int (st : Int))) ((ev_i0 (ev_v rfl) (ev_intB (fun b H Q q => .inr ⟨b, rfl, q⟩) (ev_kM (b := false) (ev_var rfl (jT.mono e3 hk2))))).eq (congrArg V.int (by show (st : Int) - 0 = _; omega))) fun v4 H4 e4 p4 => ?_
    cases p4
    have ho4 := jLI.mono (e3.trans e4) ho2
    refine s_set2I (xs := o) (j1 := st) (j2 := st + 1) (((e2.trans e3).trans e4) _ _ hp) (ev_ixI (j := st + 1) (ev_var rfl ho4) (ev_i0 (ev_v rfl) ev_c) (by omega) (gI_some (by omega))) (ev_ixI (j := st) (ev_var rfl ho4) (ev_v rfl) rfl (gI_some (by omega))) (fun _ => ev_v rfl) (fun _ => ev_v rfl) (fun _ => ev_v rfl) (fun _ => ev_i0 (ev_v rfl) ev_c) rfl (by omega) (by omega) (by omega) H (((e1.trans e2).trans e3).trans e4) hp0 fun H5 e5 h5 => ?_
    exact fin _ _ _ e5 h5 rfl rfl
end
end SL
end
section
set_option Elab.async false
set_option linter.all false
set_option maxRecDepth 100000
set_option maxHeartbeats 4000000
set_option autoImplicit false
/-! for x in xs, where only a property of xs is known; for i in reversed(range(n)). -/
namespace SL
open PySem PySem.Spec PyProof.Rows L2
section
variable {K : PySem.W.Frag} {σ : L2.St} {H H' H0 : Hp} {ta tb tc td te tl : TE} {tt tu : TT} {x y z v : V} {P P' P1 P2 P3 : V → Hp → Prop} {D : Ends} {ts tw tz : TS} {j : Nat} {C : Addr} {k : CX.Kd} {α β γ δ ε : Type} {R : RP α} {S : RP β} {vs : List Nat}
theorem s_forE {p : List α → Prop} (h : Ev tl σ H (NuE (jL R) H p)) (Pv : List α → Nat → L2.St → Hp → Prop) (h0 : ∀ xs H1, p xs → Ex H H1 → Pv xs 0 σ H1)
    (hs : ∀ xs, p xs → ∀ (i : Nat) (x : α) (v : V) (σ' : L2.St) (H' : Hp) (N : L2.St → Hp → Prop), Ex H H' → R.r H' v x → xs[i]? = some x → Pv xs i σ' H' → (∀ σ2 H2, Ex H' H2 → Pv xs (i + 1) σ2 H2 → N σ2 H2) → ts { D with nx := N, ct := N, bk := D.nx } (σ'.set j (some v)) H')
    (hd : ∀ xs, p xs → ∀ σ' H', Ex H H' → Pv xs xs.length σ' H' → D.nx σ' H') : tFor (iList K tl) (gName j) ts D σ H :=
  h H (Evl.Ex.refl H) _ fun v H1 e ⟨xs, px, a, ws, ev, ha', hp'⟩ => by
    subst ev
    have ha := newOf_ex _ _ ha'
    have hp := paired_mono (fun _ _ z => R.mono newOf_ex z) hp'
    have hlen := paired_len hp
    refine ⟨a, rfl, ⟨ws, .inl (.inl ha)⟩, for_list (fun i σ' H' => Ex H1 H' ∧ Pv xs i σ' H') ⟨Evl.Ex.refl H1, h0 xs H1 px e⟩ (fun i σ' H' hi p => .inl (.inl (p.1 _ _ ha))) (fun i w σ' H' hi p => ?_) (by rw [hlen]; exact fun σ' H' p => hd xs px σ' H' (e.trans p.1) p.2)⟩
    obtain ⟨x, hx, rx⟩ := paired_get hp hi
    exact hs xs px i x w σ' H' _ (e.trans p.1) (R.mono p.1 rx) hx p.2 fun σ2 H2 e2 p2 => ⟨p.1.trans e2, p2⟩
theorem q_forE {p : List α → Prop} (h : Ev tl σ H (NuE (jL R) H p)) (Pv : List α → Nat → L2.St → Hp → Prop) (h0 : ∀ xs H1, p xs → Ex H H1 → Pv xs 0 σ H1)
    (hs : ∀ xs, p xs → ∀ (i : Nat) (x : α) (v : V) (σ' : L2.St) (H' : Hp) (N : L2.St → Hp → Prop), Ex H H' → R.r H' v x → xs[i]? = some x → Pv xs i σ' H' → (∀ σ2 H2, Ex H' H2 → Pv xs (i + 1) σ2 H2 → N σ2 H2) → ts { D with nx := N, ct := N, bk := tz D } (σ'.set j (some v)) H')
    (hd : ∀ xs, p xs → ∀ σ' H', Ex H H' → Pv xs xs.length σ' H' → tz D σ' H') : tSeq (tFor (iList K tl) (gName j) ts) tz D σ H := s_forE (D := { D with nx := tz D }) h Pv h0 hs hd
/-- xs[::-1], all items of which are new since H0 -/
theorem ev_revH {xs : List α} (e0 : Ex H0 H) (h : Ev te σ H (Nu (jL R) H0 xs)) : Ev (tRevL K te) σ H (Nu (jL R) H0 xs.reverse) := fun H1 e1 Q q =>
  h H1 e1 _ fun v H2 e2 ⟨a, ws, ev, ha, hp⟩ => by
    subst ev
    exact ⟨a, ws, rfl, .inl (.inl (newOf_ex _ _ ha)), fun p hn => q _ _ (e2.trans (Evl.Ex.new hn)) ⟨p, _, rfl, newOf_new ((e0.trans e1).trans e2) hn, paired_rev (paired_mono (fun _ _ z => R.mono (newOf_upd hn) z) hp)⟩⟩
/-- for i in reversed(range(n)) -/
theorem q_forRev {n : Nat} (h : Ev ta σ H (Eqv (.int n))) (hz : n ≤ 100000) (Pv : Nat → L2.St → Hp → Prop) (h0 : ∀ H1, Ex H H1 → Pv 0 σ H1)
    (hs : ∀ (i : Nat) σ' H', i < n → Pv i σ' H' → ts { D with nx := Pv (i + 1), ct := Pv (i + 1), bk := tz D } (σ'.set j (some (.int ((n - 1 - i : Nat) : Int)))) H') (hd : ∀ σ' H', Pv n σ' H' → tz D σ' H') : tSeq (tFor (iRevR (tRg1 ta)) (gName j) ts) tz D σ H :=
  h H (Evl.Ex.refl H) _ fun v H1 e p => by
    cases p
    refine ⟨(n : Int), rfl, by omega, by omega, by omega, by omega, ?_⟩
    have e1 : ((n : Int) - 0).toNat = n := by omega
    rw [e1]
    refine for_rangeC Pv (h0 H1 e) (fun i σ' H' hi p => ?_) hd
    show ts _ (σ'.set j (some (.int ((0 : Int) + (n : Int) - 1 + (i : Int) * (-1))))) H'
    have e0 : (0 : Int) + (n : Int) - 1 + (i : Int) * (-1) = ((n - 1 - i : Nat) : Int) := by omega
    rw [e0]
    exact hs i σ' H' hi p
end
end SL
end
section
set_option Elab.async false
set_option linter.all false
set_option maxRecDepth 100000
set_option maxHeartbeats 4000000
set_option autoImplicit false
namespace SL
open PySem PySem.Spec PyProof.Rows L2
section
variable {P : Program} {w : World} {K : PySem.W.Frag} {mg : Str → Option Value} {base : Heap} {C : Addr}

/-! ### falls, rows, products, as the law has them -/
theorem made_of {k : CX.Kd} {r : List Nat} {o : List Int} (h : CX.RedK k r o) : r.foldl (CX.byK k) k.start = o := by
  obtain ⟨hg, h⟩ := h
  exact h.made
theorem made_rev {k : CX.Kd} {r : List Nat} {o : List Int} (h : CX.RedK k r o) : r.reverse.foldl (CX.byK k) k.start = CX.oppK k o := by
  obtain ⟨hg, h⟩ := h
  have e := CX.made_inv (S := CX.sysK k hg) h.wd
  rw [h.made] at e
  exact e.symm
theorem made_fr {k : CX.Kd} {r : List Nat} {o : List Int} {s : Nat} (h : CX.RedK k r o) (hs : s < k.steps) : (s :: r).foldl (CX.byK k) k.start = CX.aheadK k o s := by
  obtain ⟨hg, h⟩ := h
  have e := CX.made_front (S := CX.sysK k hg) hs h.wd
  rw [h.made] at e
  exact e
theorem bys_len {k : CX.Kd} (hg : k.good) : ∀ (r : List Nat) (o : List Int), o.length = k.n → (∀ s, s ∈ r → s < k.steps) → (r.foldl (CX.byK k) o).length = k.n
  | [], _, h, _ => h
  | s :: r, o, h, hr => bys_len hg r _ (CX.by_len hg (hr s List.mem_cons_self) h) fun t ht => hr t (List.mem_cons_of_mem _ ht)
abbrev spLFalls : Sp := sp2 jT jLI (jL jN) (fun k o => k.good ∧ o.length = k.n) (fun k o r => r = CX.fallsK k o)
theorem c__law_falls (T : Tp K mg C) (D : Dfn K mg "_law_falls" s__law_falls) (c__law_steps : Cal P w K mg base 1 "_law_steps" p__law_steps spLSteps) (c__law_fall : Cal P w K mg base 1 "_law_fall" p__law_fall spLFall) : Cal P w K mg base 2 "_law_falls" p__law_falls spLFalls := by
  refine cal_mk D sc__law_falls (fun _ _ _ _ h => len2 h) (fun _ _ _ _ _ _ us hl => match us, hl with | [_, _], _ => rfl) (fun f cdv A outer s H vs Q E hr h => ?_)
  obtain ⟨v1, v2, k, o, rfl, hk, ho, ⟨hg, hl⟩, q⟩ := h
  have hr' := hr
  have h7 := steps7 hg
  refine ⟨_, (pss_one (ps_ret (pe_lc (own := [("_law_step", 2)]) (by rfl) sc__law_falls.nd (pi_list (pe_cal c__law_steps hr' (by rfl) (pa_cons (pv 0) pa_nil))) (blkOk_by (own := [("_law_step", 2)]) (N := N__law_falls) (sc := defScope s__law_falls) (by decide +kernel)) (fun _ _ _ _ _ => (pg_name (i := 2) sc__law_falls.nd rfl (.inl rfl))) (fun _ _ _ _ _ => pts_one (pt_val (pe_cal c__law_fall hr' (by rfl) (pa_cons (pv 0) (pa_cons (pv 1) (pa_cons (pv 2) pa_nil)))))) (fun _ _ _ _ _ => (pv 2))))), ?_⟩
  refine s_ret (P := Nu (jL jN) H (CX.fallsK k o)) (Ev.imp (ev_lc (R := jN) (S := jN) (xs := List.range k.steps) (CX.fallK k o) (fun s => s) (isN (ev_c1 (ev_var rfl hk) hg)) (by rw [List.length_range]; omega) (fun _ => rfl) (fun i x v H3 e3 hx rx => et_B (nuB (ev_c3 (x := k) (y := o) (z := x) (ev_var rfl (jT.mono e3 hk)) (ev_var rfl (jLI.mono e3 ho)) (ev_var rfl rx) ⟨hg, hl, List.mem_range.mp (List.mem_of_getElem? hx)⟩))) (fun i x v H3 e3 hx rx hf => ev_v (congrArg (fun z => some (some z)) rx))) fun v H1 e1 p => by rw [List.map_id'] at p; exact p) fun v H1 e1 p => q v H1 _ e1 rfl p
abbrev spLRow : Sp := sp2 jT jLI (jL jN) preO (fun k o r => CX.RedK k r o)
theorem c__law_row (T : Tp K mg C) (D : Dfn K mg "_law_row" s__law_row) (c__law_falls : Cal P w K mg base 2 "_law_falls" p__law_falls spLFalls) (c__law_by : Cal P w K mg base 1 "_law_by" p__law_by spLBy) : Cal P w K mg base 3 "_law_row" p__law_row spLRow := by
  refine cal_mk D sc__law_row (fun _ _ _ _ h => len2 h) (fun _ _ _ _ _ _ us hl => match us, hl with | [_, _], _ => rfl) (fun f cdv A outer s H vs Q E hr h => ?_)
  obtain ⟨v1, v2, k, o, rfl, hk, ho, ⟨hg, hok, h1000⟩, q⟩ := h
  have hn := n_le hg
  refine ⟨_, (pss_cons (ps_par (i := 2) (j := 3) (by rfl) sc__law_row.nd rfl rfl (by decide) rfl rfl (pa_cons (pe_lst pa_nil) (pa_cons (pe_callTy call_list_of (by rfl) T.list (by decide +kernel) (pa_cons (pv 1) pa_nil)) pa_nil)) (by rfl))
      (pss_cons (ps_for PassesOwn.never rfl (pi_range1 rfl T.range (pa_cons pe_int pa_nil)) (pg_name (i := 4) sc__law_row.nd rfl (.inl rfl)) (pss_cons (ps_set (i := 5) sc__law_row.nd rfl (.inl rfl) (pe_cal c__law_falls hr (by rfl) (pa_cons (pv 0) (pa_cons (pv 3) pa_nil))))
      (pss_cons (ps_if (pt_cmpR (op_eqD hr.units) (pv 5) (pe_lst pa_nil) (nomark _)) (pss_one ps_break) pss_nil)
      (pss_cons (ps_expr (pe_bm PySem.F.plainAttrs_list PySem.F.slot_list_append PySem.F.type_list_append mt_append (pv 2) (pa_cons (pe_ix ix_list (pv 5) (pe_op op_sub (pe_callB call_len_seq (by rfl) T.len (by decide +kernel) (pa_cons (pv 5) pa_nil)) pe_int) (fun _ _ => rfl)) pa_nil)))
      (pss_one (ps_set (i := 3) sc__law_row.nd rfl (.inl rfl) (pe_cal c__law_by (hr.mono (by decide)) (by rfl) (pa_cons (pv 0) (pa_cons (pv 3) (pa_cons (pe_ix ix_list (pv 2) (pe_op op_sub (pe_callB call_len_seq (by rfl) T.len (by decide +kernel) (pa_cons (pv 2) pa_nil)) pe_int) (fun _ _ => rfl)) pa_nil))))))))))
      (pss_one (ps_ret (pe_revL (pv 2)))))), ?_⟩
  refine q_par (P1 := Nu (jL jN) H []) (P2 := fun H1 => Nu jLI H1 o) ev_nil (fun v H1 e1 p1 => ev_listI lisR (ev_var rfl (jLI.mono e1 ho))) fun v w H1 H2 e1 p1 e2 p2 => ?_
  obtain ⟨p, ws, rfl, hp, hpw⟩ := p1
  cases hpw
  obtain ⟨hp0, hp1⟩ := newOf_some hp
  have e12 := e1.trans e2
  have p2' : jLI.r (nw H p H2) w o := jLI.mono (nw_of e1 (by rw [hp1]; exact fun z => nomatch z)) p2
  refine q_forR (n := 2000) ev_c (by decide) (fun i σ' H' => ∃ (l : List Int) (acc : List Nat) (u : V) (t x : Option V), σ' = [some v1, some v2, some (.ref p), some u, t, x] ∧ Ex H H' ∧ H' p = some (.lst (acc.map fun (n : Nat) => V.int (n : Int))) ∧ jLI.r (nw H p H') u l ∧ CX.Okk k l ∧ acc.length = i ∧ acc.length + CX.crK k l = CX.crK k o ∧ ∀ r, CX.RedK k r l → CX.RedK k (r ++ acc.reverse) o)
    (fun H3 e3 => ⟨o, [], w, none, none, rfl, e12.trans e3, e3 _ _ (e2 _ _ hp1), jLI.mono (nw_mono e3) p2', hok, rfl, Nat.zero_add _, fun r h => by rw [List.reverse_nil, List.append_nil]; exact h⟩) (fun i σ' H' hi pv => ?_) (fun σ' H' pv => ?_)
  · obtain ⟨l, acc, u, t, x, rfl, ee, hpp, hu, hl, hai, ha, hred⟩ := pv
    refine q_set (nu1 (ev_c2 (x := k) (y := l) (ev_var rfl (jT.mono ee hk)) (ev_var rfl (jLI.mono nw_ex hu)) ⟨hg, (hl.sh hg).len⟩)) fun v4 H4 e4 p4 => ?_
    have hu4 := jLI.mono (nw_mono e4) hu
    have ee4 := ee.trans e4
    have hpp4 := e4 _ _ hpp
    have p4' : (jL jN).r (nw H p H4) v4 (CX.fallsK k l) := (jL jN).mono (nw_of ee (by rw [hpp]; exact fun z => nomatch z)) p4
    cases hc : CX.fallsK k l with
    | nil =>
      rw [hc] at p4
      refine q_yes ((et_eqN encN (ev_var rfl p4.is)).eq rfl) fun H5 e5 => ?_
      have hst := CX.falls_nil hg hl hc
      subst hst
      have hfin := hred _ (CX.RedK.start hg)
      rw [List.nil_append] at hfin
      have hp5 : (jL jN).r H5 (.ref p) acc := ⟨p, _, rfl, e5 _ _ hpp4, paired_ofNat acc⟩
      show tRet (tRevL K (tVar 2)) _ _ H5
      exact s_ret (ev_revN (ev_var rfl hp5)) fun v H6 e6 p6 => q v H6 _ ((ee4.trans e5).trans e6) hfin (p6.back (ee4.trans e5))
    | cons s0 rest0 =>
      obtain ⟨pre, s, hcs⟩ : ∃ pre s, CX.fallsK k l = pre ++ [s] := ⟨(CX.fallsK k l).dropLast, (CX.fallsK k l).getLast (by rw [hc]; exact List.cons_ne_nil _ _), (List.dropLast_concat_getLast _).symm⟩
      refine q_skip ((et_eqN encN (ev_var rfl p4.is)).eq (by rw [hc]; rfl)) fun H5 e5 => ?_
      obtain ⟨hs1, hs2⟩ := CX.falls_mem (show s ∈ CX.fallsK k l by rw [hcs]; simp)
      have hdown := CX.crK_down hg hl hs1 hs2
      have ee5 := ee4.trans e5
      have hu5 := jLI.mono (nw_mono e5) hu4
      have hx5 := (jL jN).mono (nw_mono e5) p4'
      have hlen5 : (CX.fallsK k l).length = pre.length + 1 := by rw [hcs, List.length_append]; rfl
      refine q_app (P := Is jN s) (e5 _ _ hpp4) (ev_v rfl) (ev_ixL (R := jN) (xs := CX.fallsK k l) (j := pre.length) (ev_var rfl ((jL jN).mono nw_ex hx5)) (ev_i0 (ev_lenL lenR (ev_var rfl ((jL jN).mono nw_ex hx5))) ev_c) (by rw [hlen5]; omega) (by rw [hcs]; simp)) (by rw [List.length_map]; omega) fun v5 H6 e6 p6 => ?_
      cases p6
      have e6p := e6 _ _ (e5 _ _ hpp4)
      have hu6 := jLI.mono nw_upd (jLI.mono (nw_mono e6) hu5) (H' := nw H p (upd H6 p (.lst ((acc.map fun (n : Nat) => V.int (n : Int)) ++ [.int (s : Int)]))))
      have ee6 : Ex H (upd H6 p (.lst ((acc.map fun (n : Nat) => V.int (n : Int)) ++ [.int (s : Int)]))) := ex_upd (ee5.trans e6) hp0
      have hpp6 : (upd H6 p (.lst ((acc.map fun (n : Nat) => V.int (n : Int)) ++ [.int (s : Int)]))) p = some (.lst ((acc ++ [s]).map fun (n : Nat) => V.int (n : Int))) := by rw [upd_same, List.map_append]; rfl
      generalize upd H6 p (.lst ((acc.map fun (n : Nat) => V.int (n : Int)) ++ [.int (s : Int)])) = H7 at hu6 ee6 hpp6 ⊢
      have hfl : (jL jN).r H7 (.ref p) (acc ++ [s]) := ⟨p, _, rfl, hpp6, paired_ofNat _⟩
      refine s_set (P := Nu jLI H7 (CX.byK k l s)) (nu1 (ev_c3 (x := k) (y := l) (z := s) (ev_var rfl (jT.mono ee6 hk)) (ev_var rfl (jLI.mono nw_ex hu6)) (ev_ixL (R := jN) (xs := acc ++ [s]) (j := acc.length) (ev_var rfl hfl) (ev_i0 (ev_lenL lenR (ev_var rfl hfl)) ev_c) (by rw [List.length_append]; show ((acc.length + 1 : Nat) : Int) - 1 = _; omega) (by simp)) ⟨hg, (hl.sh hg).len, hs1⟩)) fun v8 H8 e8 p8 => ?_
      refine ⟨CX.byK k l s, acc ++ [s], v8, _, _, rfl, ee6.trans e8, e8 _ _ hpp6, jLI.mono (nw_of ee6 (by rw [hpp6]; exact fun z => nomatch z)) p8, hl.by hs1, by rw [List.length_append, hai]; rfl, by rw [List.length_append]; show acc.length + 1 + _ = _; omega, fun r hrr => ?_⟩
      have h1 := hred _ (CX.RedK.step hg hl hs1 hs2 hrr)
      rw [List.reverse_append]
      rw [List.append_assoc] at h1
      exact h1
  · obtain ⟨l, acc, u, t, x, rfl, ee, hpp, hu, hl, hai, ha, hred⟩ := pv
    omega
abbrev spLMade : Sp := sp3 jT jLI (jL jN) jLI (fun k o r => k.good ∧ o.length = k.n ∧ ∀ s, s ∈ r → s < k.steps) (fun k o r x => x = r.foldl (CX.byK k) o)
theorem c__law_made (T : Tp K mg C) (D : Dfn K mg "_law_made" s__law_made) (c__law_by : Cal P w K mg base 1 "_law_by" p__law_by spLBy) : Cal P w K mg base 2 "_law_made" p__law_made spLMade := by
  refine cal_mk D sc__law_made (fun _ _ _ _ h => len3 h) (fun _ _ _ _ _ _ us hl => match us, hl with | [_, _, _], _ => rfl) (fun f cdv A outer s H vs Q E hr h => ?_)
  obtain ⟨v1, v2, v3, k, o, row, rfl, hk, ho, hrow, ⟨hg, hl, hst⟩, q⟩ := h
  have hr' := hr
  refine ⟨_, (pss_cons (ps_set (i := 3) sc__law_made.nd rfl (.inl rfl) (pe_callTy call_list_of (by rfl) T.list (by decide +kernel) (pa_cons (pv 1) pa_nil)))
      (pss_cons (ps_for PassesOwn.never rfl (pi_list (pv 2)) (pg_name (i := 4) sc__law_made.nd rfl (.inl rfl)) (pss_one (ps_set (i := 3) sc__law_made.nd rfl (.inl rfl) (pe_cal c__law_by hr' (by rfl) (pa_cons (pv 0) (pa_cons (pv 3) (pa_cons (pv 4) pa_nil)))))))
      (pss_one (ps_ret (pv 3))))), ?_⟩
  refine q_set (ev_listI lisR (ev_var rfl ho)) fun v H1 e1 p1 => ?_
  refine q_forX (R := jN) (xs := row) (ev_var rfl ((jL jN).mono e1 hrow)) (fun i σ' H' => ∃ (u : V) (y : Option V), σ' = [some v1, some v2, some v3, some u, y] ∧ Nu jLI H ((row.take i).foldl (CX.byK k) o) u H') (fun H2 e2 => ⟨v, none, rfl, jLI.mono (newOf_mono e2) p1⟩) (fun i x w σ' H' N e2 rx hx pv hN => ?_) (fun σ' H' e2 pv => ?_)
  · obtain ⟨u, y, rfl, hu⟩ := pv
    have okp : ((row.take i).foldl (CX.byK k) o).length = k.n := bys_len hg _ _ hl fun s hs => hst s (List.mem_of_mem_take hs)
    refine s_set (nu1 (ev_c3 (x := k) (z := x) (ev_var rfl (jT.mono (e1.trans e2) hk)) (ev_var rfl hu.is) (ev_var rfl rx) ⟨hg, okp, hst x (List.mem_of_getElem? hx)⟩)) fun v5 H5 e5 p5 => hN _ _ e5 ⟨v5, some w, rfl, ?_⟩
    rw [foldl_snoc _ _ hx]
    exact p5.back (e1.trans e2)
  · obtain ⟨u, y, rfl, hu⟩ := pv
    rw [List.take_length] at hu
    exact s_ret (ev_var (P := Nu jLI H (row.foldl (CX.byK k) o)) rfl hu) fun v5 H5 e5 p5 => q v5 H5 _ ((e1.trans e2).trans e5) rfl p5
abbrev spLBack : Sp := sp2 jT jLI jLI preO (fun k o r => r = CX.oppK k o)
theorem c__law_back (T : Tp K mg C) (D : Dfn K mg "_law_back" s__law_back) (c__law_start : Cal P w K mg base 1 "_law_start" p__law_start spLStart) (c__law_row : Cal P w K mg base 3 "_law_row" p__law_row spLRow) (c__law_made : Cal P w K mg base 2 "_law_made" p__law_made spLMade) : Cal P w K mg base 4 "_law_back" p__law_back spLBack := by
  refine cal_mk D sc__law_back (fun _ _ _ _ h => len2 h) (fun _ _ _ _ _ _ us hl => match us, hl with | [_, _], _ => rfl) (fun f cdv A outer s H vs Q E hr h => ?_)
  obtain ⟨v1, v2, k, o, rfl, hk, ho, ⟨hg, hok, h1000⟩, q⟩ := h
  refine ⟨_, (pss_one (ps_ret (pe_cal c__law_made (hr.mono (by decide)) (by rfl) (pa_cons (pv 0) (pa_cons (pe_cal c__law_start (hr.mono (by decide)) (by rfl) (pa_cons (pv 0) pa_nil)) (pa_cons (pe_revL (pe_cal c__law_row hr (by rfl) (pa_cons (pv 0) (pa_cons (pv 1) pa_nil)))) pa_nil)))))), ?_⟩
  refine s_ret (ev_c3E (x := k) (y := k.start) (ev_var rfl hk) (isN (ev_c1 (ev_var rfl hk) hg)) (ev_revE (ev_c2 (x := k) (y := o) (ev_var rfl hk) (ev_var rfl ho) ⟨hg, hok, h1000⟩)) (fun z hz => ?_)) fun v H2 e2 p => ?_
  · obtain ⟨r, hr1, rfl⟩ := hz
    exact ⟨hg, CX.start_len, fun s hs => CX.Okk.good_steps hr1 s (List.mem_reverse.mp hs)⟩
  · obtain ⟨r, ⟨z, ⟨r1, hr1, rfl⟩, e⟩, p⟩ := p
    exact q v H2 r e2 (e.trans (made_rev hr1)) p
abbrev spLAhead : Sp := sp3 jT jLI jN jLI (fun k o s => preO k o ∧ s < k.steps) (fun k o s r => r = CX.aheadK k o s)
theorem c__law_ahead (T : Tp K mg C) (D : Dfn K mg "_law_ahead" s__law_ahead) (c__law_start : Cal P w K mg base 1 "_law_start" p__law_start spLStart) (c__law_row : Cal P w K mg base 3 "_law_row" p__law_row spLRow) (c__law_made : Cal P w K mg base 2 "_law_made" p__law_made spLMade) : Cal P w K mg base 4 "_law_ahead" p__law_ahead spLAhead := by
  refine cal_mk D sc__law_ahead (fun _ _ _ _ h => len3 h) (fun _ _ _ _ _ _ us hl => match us, hl with | [_, _, _], _ => rfl) (fun f cdv A outer s H vs Q E hr h => ?_)
  obtain ⟨v1, v2, v3, k, o, st, rfl, hk, ho, hs, ⟨⟨hg, hok, h1000⟩, hst⟩, q⟩ := h
  refine ⟨_, (pss_one (ps_ret (pe_cal c__law_made (hr.mono (by decide)) (by rfl) (pa_cons (pv 0) (pa_cons (pe_cal c__law_start (hr.mono (by decide)) (by rfl) (pa_cons (pv 0) pa_nil)) (pa_cons (pe_op op_cat (pe_lst (pa_cons (pv 2) pa_nil)) (pe_cal c__law_row hr (by rfl) (pa_cons (pv 0) (pa_cons (pv 1) pa_nil)))) pa_nil)))))), ?_⟩
  have one : ∀ H1, Ex H H1 → Ev (tLst (tCons (tVar 2) tNil)) (L2.start N__law_ahead [v1, v2, v3]) H1 (NuE (jL jN) H1 (fun r => r = [st])) := fun H1 e1 =>
    ev_lst (ea_1 (P := Is jN st) (ev_var rfl hs)) (fun vs H1 ⟨v, e, _⟩ => by rw [e]; show 1 ≤ 100000; decide) fun vs H2 p e ⟨v, ev, p1⟩ hn => by
      subst ev
      exact ⟨[st], rfl, p, [v], rfl, newOf_new e hn, .cons p1 .nil⟩
  refine s_ret (ev_c3E (x := k) (y := k.start) (ev_var rfl hk) (isN (ev_c1 (ev_var rfl hk) hg)) (ev_catE (R := jN) (Evl.Ex.refl H) (one H (Evl.Ex.refl H)) (ev_c2 (x := k) (y := o) (ev_var rfl hk) (ev_var rfl ho) ⟨hg, hok, h1000⟩) (fun a b ha hb => by have h1 : CX.RedK k b o := hb; have := h1.len; rw [ha]; show 1 + _ ≤ _; omega)) (fun z hz => ?_)) fun v H2 e2 p => ?_
  · obtain ⟨a, b, rfl, hb, rfl⟩ := hz
    refine ⟨hg, CX.start_len, fun s hs => ?_⟩
    rcases List.mem_cons.mp hs with e | e
    · rw [e]; exact hst
    · exact CX.Okk.good_steps hb s e
  · obtain ⟨r, ⟨z, ⟨a, b, rfl, hb, rfl⟩, e⟩, p⟩ := p
    exact q v H2 r e2 (e.trans (made_fr hb hst)) p
abbrev spLHeads : Sp := sp2 jT jLI (jL jN) preO (fun k o r => r = CX.headsK k o)
theorem c__law_heads (T : Tp K mg C) (D : Dfn K mg "_law_heads" s__law_heads) (c__law_falls : Cal P w K mg base 2 "_law_falls" p__law_falls spLFalls) (c__law_back : Cal P w K mg base 4 "_law_back" p__law_back spLBack) : Cal P w K mg base 5 "_law_heads" p__law_heads spLHeads := by
  refine cal_mk D sc__law_heads (fun _ _ _ _ h => len2 h) (fun _ _ _ _ _ _ us hl => match us, hl with | [_, _], _ => rfl) (fun f cdv A outer s H vs Q E hr h => ?_)
  obtain ⟨v1, v2, k, o, rfl, hk, ho, ⟨hg, hok, h1000⟩, q⟩ := h
  refine ⟨_, (pss_one (ps_ret (pe_cal c__law_falls (hr.mono (by decide)) (by rfl) (pa_cons (pv 0) (pa_cons (pe_cal c__law_back hr (by rfl) (pa_cons (pv 0) (pa_cons (pv 1) pa_nil))) pa_nil))))), ?_⟩
  exact s_ret (nu1 (ev_c2 (x := k) (y := CX.oppK k o) (ev_var rfl hk) (isN (ev_c2 (x := k) (y := o) (ev_var rfl hk) (ev_var rfl ho) ⟨hg, hok, h1000⟩)) ⟨hg, ((hok.opp hg).sh hg).len⟩)) fun v H1 e1 p => q v H1 _ e1 rfl p
abbrev spLGreedy : Sp := sp3 jT jLI jLI jLI (fun k x y => k.good ∧ CX.Okk k x ∧ CX.Okk k y ∧ CX.crK k y ≤ 1000) (fun k x y r => r = CX.starK k x y)
theorem c__law_greedy (T : Tp K mg C) (D : Dfn K mg "_law_greedy" s__law_greedy) (c__law_fall : Cal P w K mg base 1 "_law_fall" p__law_fall spLFall) (c__law_by : Cal P w K mg base 1 "_law_by" p__law_by spLBy) (c__law_row : Cal P w K mg base 3 "_law_row" p__law_row spLRow) : Cal P w K mg base 4 "_law_greedy" p__law_greedy spLGreedy := by
  refine cal_mk D sc__law_greedy (fun _ _ _ _ h => len3 h) (fun _ _ _ _ _ _ us hl => match us, hl with | [_, _, _], _ => rfl) (fun f cdv A outer s H vs Q E hr h => ?_)
  obtain ⟨v1, v2, v3, k, o, y, rfl, hk, ho, hy, ⟨hg, hok, oky, h1000⟩, q⟩ := h
  refine ⟨_, (pss_cons (ps_set (i := 3) sc__law_greedy.nd rfl (.inl rfl) (pe_callTy call_list_of (by rfl) T.list (by decide +kernel) (pa_cons (pv 1) pa_nil)))
      (pss_cons (ps_for PassesOwn.never rfl (pi_list (pe_cal c__law_row hr (by rfl) (pa_cons (pv 0) (pa_cons (pv 2) pa_nil)))) (pg_name (i := 4) sc__law_greedy.nd rfl (.inl rfl)) (pss_one (ps_if (pt_not (pt_val (pe_cal c__law_fall (hr.mono (by decide)) (by rfl) (pa_cons (pv 0) (pa_cons (pv 3) (pa_cons (pv 4) pa_nil)))))) (pss_one (ps_set (i := 3) sc__law_greedy.nd rfl (.inl rfl) (pe_cal c__law_by (hr.mono (by decide)) (by rfl) (pa_cons (pv 0) (pa_cons (pv 3) (pa_cons (pv 4) pa_nil)))))) pss_nil)))
      (pss_one (ps_ret (pv 3))))), ?_⟩
  refine q_set (ev_listI lisR (ev_var rfl ho)) fun v H1 e1 p1 => ?_
  refine q_forE (R := jN) (p := fun r => CX.RedK k r y) (ev_c2 (x := k) (y := y) (ev_var rfl (jT.mono e1 hk)) (ev_var rfl (jLI.mono e1 hy)) ⟨hg, oky, h1000⟩) (fun row i σ' H' => ∃ (u : V) (y : Option V), σ' = [some v1, some v2, some v3, some u, y] ∧ Nu jLI H ((row.take i).foldl (CX.gainK k) o) u H') (fun row H2 hrow e2 => ⟨v, none, rfl, jLI.mono (newOf_mono e2) p1⟩) (fun row hrow i x w σ' H' N e2 rx hx pv hN => ?_) (fun row hrow σ' H' e2 pv => ?_)
  · obtain ⟨u, y', rfl, hu⟩ := pv
    have hst := CX.Okk.good_steps hrow
    have okp : CX.Okk k ((row.take i).foldl (CX.gainK k) o) := CX.gains_ok _ _ hok fun s hs => hst s (List.mem_of_mem_take hs)
    have hxs := hst x (List.mem_of_getElem? hx)
    have hk2 := jT.mono (e1.trans e2) hk
    refine s_if (et_not (et_B (nuB (ev_c3 (x := k) (y := (row.take i).foldl (CX.gainK k) o) (z := x) (ev_var rfl hk2) (ev_var rfl hu.is) (ev_var rfl rx) ⟨hg, (okp.sh hg).len, hxs⟩)))) (fun hf H3 e3 => ?_) (fun hf H3 e3 => ?_)
    · have hf' : CX.fallK k ((row.take i).foldl (CX.gainK k) o) x = false := by simpa using hf
      refine s_set (nu1 (ev_c3 (x := k) (y := (row.take i).foldl (CX.gainK k) o) (z := x) (ev_var rfl (jT.mono e3 hk2)) (ev_var rfl (jLI.mono e3 hu.is)) (ev_var rfl (jN.mono e3 rx)) ⟨hg, (okp.sh hg).len, hxs⟩)) fun v5 H5 e5 p5 => hN _ _ (e3.trans e5) ⟨v5, some w, rfl, ?_⟩
      rw [foldl_snoc _ _ hx, show CX.gainK k ((row.take i).foldl (CX.gainK k) o) x = CX.byK k ((row.take i).foldl (CX.gainK k) o) x from if_neg (by rw [hf']; exact Bool.false_ne_true)]
      exact p5.back ((e1.trans e2).trans e3)
    · have hf' : CX.fallK k ((row.take i).foldl (CX.gainK k) o) x = true := by simpa using hf
      refine hN _ _ e3 ⟨u, some w, rfl, ?_⟩
      rw [foldl_snoc _ _ hx, show CX.gainK k ((row.take i).foldl (CX.gainK k) o) x = (row.take i).foldl (CX.gainK k) o from if_pos hf']
      exact jLI.mono (newOf_mono e3) hu
  · obtain ⟨u, y', rfl, hu⟩ := pv
    rw [List.take_length] at hu
    exact s_ret (ev_var (P := Nu jLI H (row.foldl (CX.gainK k) o)) rfl hu) fun v5 H5 e5 p5 => q v5 H5 _ ((e1.trans e2).trans e5) (CX.red_gained hg hok hrow) p5
end
end SL
end
section
set_option Elab.async false
set_option linter.all false
set_option maxRecDepth 100000
set_option maxHeartbeats 4000000
set_option autoImplicit false
/-! lengths of lists of which a property is known; the two sides. -/
namespace SL
open PySem PySem.Spec PyProof.Rows L2
def jSd : RP Bool := ⟨fun _ v b => v = .str (sdS b), fun _ h => h⟩
section
variable {K : PySem.W.Frag} {σ : L2.St} {H H' H0 : Hp} {ta tb tc td te tl : TE} {tt tu : TT} {x y z v : V} {P P' P1 P2 P3 : V → Hp → Prop} {D : Ends} {ts tw tz : TS} {j : Nat} {C : Addr} {k : CX.Kd} {α β γ δ ε : Type} {R : RP α} {S : RP β} {vs : List Nat}
theorem ev_lenE {p : List α → Prop} {n : Nat} {r : List V → Hp → VK → Prop} (hr : ∀ (p : Addr) (ys : List V) (H : Hp) (Q : VK), SqL K H p ys → Q (.int ys.length) H → r [.ref p] H Q) (ha : Ev ta σ H (NuE (jL R) H p)) (hn : ∀ xs, p xs → xs.length = n) : Ev (tCB r (tCons ta tNil)) σ H (Eqv (.int n)) :=
  ev_cb (ea_1 ha) fun vs H1 _ ⟨v, e, xs, px, a, ws, h1, h2, h3⟩ Q q => by
    subst e h1
    refine hr a ws H1 Q (.inl (.inl (newOf_ex _ _ h2))) ?_
    rw [paired_len h3, hn xs px]
    exact q _ H1 (Evl.Ex.refl H1) rfl
theorem ev_sides : Ev (tLst (tCons (tC (.str "upper")) (tCons (tC (.str "lower")) tNil))) σ H (Is (jL jSd) [true, false]) :=
  ev_lst (ea_2 (P1 := Eqv (.str "upper")) (P2 := Eqv (.str "lower")) ev_c ev_c) (fun vs H1 ⟨v, w, e, _⟩ => by rw [e]; show 2 ≤ 100000; decide) fun vs H1 p e ⟨v, w, ev, p1, p2⟩ hn => by
    subst ev
    cases p1; cases p2
    exact ⟨p, _, rfl, upd_same, .cons rfl (.cons rfl .nil)⟩
theorem sd_eq (a b : Bool) : decide (V.str (sdS a) = V.str (sdS b)) = (a == b) := by cases a <;> cases b <;> decide +kernel
end
end SL
end
section
set_option Elab.async false
set_option linter.all false
set_option maxRecDepth 100000
set_option maxHeartbeats 4000000
set_option autoImplicit false
namespace SL
open PySem PySem.Spec PyProof.Rows L2
section
variable {P : Program} {w : World} {K : PySem.W.Frag} {mg : Str → Option Value} {base : Heap} {C : Addr}

/-! ### wholes, deeds, as the law has them -/
theorem wholes_head {k : CX.Kd} {xs : List (List Int)} {j : Nat} (h : j < xs.length) : (CX.wholesK k (xs.drop j))[0]? = some (CX.wholeK k (xs.drop j)) := by
  rw [CX.cut1 h]
  rfl
theorem rev_last {α : Type} (l : List α) : l.reverse[l.length - 1]? = l[0]? := by
  cases l with
  | nil => rfl
  | cons a l =>
    rw [List.getElem?_reverse (by simp)]
    simp
abbrev spLWholes : Sp := sp2 jT jLL jLL preX (fun k xs r => r = CX.wholesK k xs)
theorem c__law_wholes (T : Tp K mg C) (D : Dfn K mg "_law_wholes" s__law_wholes) (c__law_greedy : Cal P w K mg base 4 "_law_greedy" p__law_greedy spLGreedy) : Cal P w K mg base 5 "_law_wholes" p__law_wholes spLWholes := by
  refine cal_mk D sc__law_wholes (fun _ _ _ _ h => len2 h) (fun _ _ _ _ _ _ us hl => match us, hl with | [_, _], _ => rfl) (fun f cdv A outer s H vs Q E hr h => ?_)
  obtain ⟨v1, v2, k, xs, rfl, hk, hx, ⟨hg, hs⟩, q⟩ := h
  have hlen := hs.len
  have hpos := List.length_pos_iff.mpr hs.ne
  have hr' := hr
  refine ⟨_, (pss_cons (ps_set (i := 2) sc__law_wholes.nd rfl (.inl rfl) (pe_lst (pa_cons (pe_callTy call_list_of (by rfl) T.list (by decide +kernel) (pa_cons (pe_ix ix_list (pv 1) (pe_op op_sub (pe_callB call_len_seq (by rfl) T.len (by decide +kernel) (pa_cons (pv 1) pa_nil)) pe_int) (fun _ _ => rfl)) pa_nil)) pa_nil)))
      (pss_cons (ps_for PassesOwn.never rfl (pi_revR (by rfl) T.reversed (prg_1 (by rfl) T.range (pe_op op_sub (pe_callB call_len_seq (by rfl) T.len (by decide +kernel) (pa_cons (pv 1) pa_nil)) pe_int))) (pg_name (i := 3) sc__law_wholes.nd rfl (.inl rfl)) (pss_one (ps_expr (pe_bm PySem.F.plainAttrs_list PySem.F.slot_list_append PySem.F.type_list_append mt_append (pv 2) (pa_cons (pe_cal c__law_greedy hr' (by rfl) (pa_cons (pv 0) (pa_cons (pe_ix ix_list (pv 1) (pv 3) (fun _ _ => rfl)) (pa_cons (pe_ix ix_list (pv 2) (pe_op op_sub (pe_callB call_len_seq (by rfl) T.len (by decide +kernel) (pa_cons (pv 2) pa_nil)) pe_int) (fun _ _ => rfl)) pa_nil)))) pa_nil)))))
      (pss_one (ps_ret (pe_revL (pv 2)))))), ?_⟩
  have gz := gL_some (xs := xs) (i := xs.length - 1) (by omega)
  have okz := hs.all _ (List.mem_of_getElem? gz)
  refine q_set (P := Nu (jLd jLI) H [CX.gL xs (xs.length - 1)]) (ev_oneD (ev_listI lisR (ev_ixL (j := xs.length - 1) (ev_var rfl hx) (ev_i0 (ev_lenL lenR (ev_var rfl hx)) ev_c) (by omega) gz))) fun v H1 e1 p1 => ?_
  obtain ⟨p, ws, rfl, hp, hpw, _⟩ := p1
  obtain ⟨hp0, hp1⟩ := newOf_some hp
  have hpw' : Paired (jLI.r (nw H p H1)) ws [CX.gL xs (xs.length - 1)] := paired_mono (fun _ _ z => jLI.mono (fun a o ha => by
    obtain ⟨h1, h2⟩ := wo_some ha
    obtain ⟨h3, h4⟩ := newOf_some h2
    rw [nw_at h3 h1]; exact h4) z) (items_beside (G := newOf H H1) hp (fun v hv => hv) hpw)
  have hw0 : (CX.wholesK k (xs.drop (xs.length - 1))).reverse = [CX.gL xs (xs.length - 1)] := by
    rw [CX.cut1 (by omega), show xs.length - 1 + 1 = xs.length by omega, List.drop_length]
    show [CX.wholeK k [_]] = _
    rw [CX.wholeK_one hg okz]
  refine q_forRev (n := xs.length - 1) ((ev_i0 (ev_lenL lenR (ev_var rfl (jLL.mono e1 hx))) ev_c).eq (congrArg V.int (by omega))) (by omega) (fun i σ' H' => ∃ (acc : List V) (y : Option V), σ' = [some v1, some v2, some (.ref p), y] ∧ Ex H H' ∧ H' p = some (.lst acc) ∧ Paired (jLI.r (nw H p H')) acc (CX.wholesK k (xs.drop (xs.length - 1 - i))).reverse)
    (fun H2 e2 => ⟨ws, none, rfl, e1.trans e2, e2 _ _ hp1, by rw [Nat.sub_zero, hw0]; exact paired_mono (fun _ _ z => jLI.mono (nw_mono e2) z) hpw'⟩) (fun i σ' H' hi pv => ?_) (fun σ' H' pv => ?_)
  · obtain ⟨acc, y, rfl, ee, hpa, hacc⟩ := pv
    have hj : xs.length - 1 - i < xs.length := by omega
    have ej : xs.length - 1 - i = xs.length - 1 - 1 - i + 1 := by omega
    have gx := gL_some (xs := xs) (i := xs.length - 1 - 1 - i) (by omega)
    have okx := hs.all _ (List.mem_of_getElem? gx)
    have okd := AllK.drop hs.all (xs.length - 1 - i)
    have hcr : CX.crK k (CX.wholeK k (xs.drop (xs.length - 1 - i))) ≤ 1000 := by
      have h1 := CX.whole_suffix hg (xs.take (xs.length - 1 - i)) (xs.drop (xs.length - 1 - i)) (by rw [List.take_append_drop]; exact hs.all)
      rw [List.take_append_drop] at h1
      exact Nat.le_trans h1 (Nat.le_trans hs.cr (by decide))
    have hal := paired_len hacc
    rw [List.length_reverse, CX.wholesK_len, List.length_drop] at hal
    have hfl : jLL.r H' (.ref p) (CX.wholesK k (xs.drop (xs.length - 1 - i))).reverse := ⟨p, acc, rfl, hpa, paired_mono (fun _ _ z => jLI.mono nw_ex z) hacc⟩
    refine s_app (P := Nu jLI H' (CX.starK k (CX.gL xs (xs.length - 1 - 1 - i)) (CX.wholeK k (xs.drop (xs.length - 1 - i))))) hpa (ev_v rfl) (nu1 (ev_c3 (x := k) (ev_var rfl (jT.mono ee hk)) (ev_ixL (j := xs.length - 1 - 1 - i) (ev_var rfl (jLL.mono ee hx)) (ev_v rfl) rfl gx) (ev_ixL (R := jLI) (xs := (CX.wholesK k (xs.drop (xs.length - 1 - i))).reverse) (j := (CX.wholesK k (xs.drop (xs.length - 1 - i))).length - 1) (ev_var rfl hfl) (ev_i0 (ev_lenL lenR (ev_var rfl hfl)) ev_c) (by rw [List.length_reverse, CX.wholesK_len, List.length_drop]; omega) (by rw [rev_last]; exact wholes_head hj)) ⟨hg, okx, CX.wholeK_ok hg okd, hcr⟩)) (by omega) fun u H3 e3 pu => ⟨acc ++ [u], _, rfl, ex_upd (ee.trans e3) hp0, upd_same, ?_⟩
    have et : (CX.wholesK k (xs.drop (xs.length - 1 - (i + 1)))).reverse = (CX.wholesK k (xs.drop (xs.length - 1 - i))).reverse ++ [CX.starK k (CX.gL xs (xs.length - 1 - 1 - i)) (CX.wholeK k (xs.drop (xs.length - 1 - i)))] := by
      rw [show xs.length - 1 - (i + 1) = xs.length - 1 - 1 - i by omega, CX.cut1 (by omega), CX.wholesK, CX.wholeK_cons hg, List.reverse_cons, ej]
    rw [et]
    exact paired_snoc (paired_mono (fun _ _ z => jLI.mono ((nw_mono e3).trans nw_upd) z) hacc) (jLI.mono ((nw_of ee (by rw [hpa]; exact fun z => nomatch z)).trans nw_upd) pu)
  · obtain ⟨acc, y, rfl, ee, hpa, hacc⟩ := pv
    rw [Nat.sub_self, List.drop_zero] at hacc
    have hfl : Nu jLL H (CX.wholesK k xs).reverse (.ref p) H' := jL_new hp0 hpa (paired_mono (fun _ _ z => jLI.mono nw_new z) hacc)
    refine s_ret (ev_revH ee (ev_var rfl hfl)) fun v5 H5 e5 p5 => ?_
    rw [List.reverse_reverse] at p5
    exact q v5 H5 _ (ee.trans e5) rfl p5
abbrev spLDeeds : Sp := sp2 jT jLL (jL jD) preX (fun k xs r => r = CX.deedsK k xs)
theorem c__law_deeds (T : Tp K mg C) (D : Dfn K mg "_law_deeds" s__law_deeds) (c__law_falls : Cal P w K mg base 2 "_law_falls" p__law_falls spLFalls) (c__law_heads : Cal P w K mg base 5 "_law_heads" p__law_heads spLHeads) : Cal P w K mg base 6 "_law_deeds" p__law_deeds spLDeeds := by
  refine cal_mk D sc__law_deeds (fun _ _ _ _ h => len2 h) (fun _ _ _ _ _ _ us hl => match us, hl with | [_, _], _ => rfl) (fun f cdv A outer s H vs Q E hr h => ?_)
  obtain ⟨v1, v2, k, xs, rfl, hk, hx, ⟨hg, hs⟩, q⟩ := h
  have hall := hs.all
  have hne := hs.ne
  have hz := hs.len
  have hpos := List.length_pos_iff.mpr hne
  have hs7 := steps7 hg
  refine ⟨_, (pss_cons (ps_set (i := 2) sc__law_deeds.nd rfl (.inl rfl) (pe_lst pa_nil))
      (pss_cons (ps_for PassesOwn.never rfl (pi_range1 rfl T.range (pa_cons (pe_op op_sub (pe_callB call_len_seq (by rfl) T.len (by decide +kernel) (pa_cons (pv 1) pa_nil)) pe_int) pa_nil)) (pg_name (i := 3) sc__law_deeds.nd rfl (.inr rfl)) (pss_cons (ps_set (i := 2) sc__law_deeds.nd rfl (.inl rfl) (pe_op op_cat (pv 2) (pe_lc (own := [("_law_step", 4)]) (by rfl) sc__law_deeds.nd (pi_list (pe_cal c__law_falls (hr.mono (by decide)) (by rfl) (pa_cons (pv 0) (pa_cons (pe_ix ix_list (pv 1) (pv 3) (fun _ _ => rfl)) pa_nil)))) (blkOk_by (own := [("_law_step", 4)]) (N := N__law_deeds) (sc := defScope s__law_deeds) (by decide +kernel)) (fun _ _ _ _ _ => (pg_name (i := 4) sc__law_deeds.nd rfl (.inl rfl))) (fun _ _ _ _ _ => pts_nil) (fun _ _ _ _ _ => (pe_tup (pa_cons (pv 3) (pa_cons pe_str (pa_cons (pv 4) pa_nil))))))))
      (pss_one (ps_set (i := 2) sc__law_deeds.nd rfl (.inl rfl) (pe_op op_cat (pv 2) (pe_lc (own := [("_law_step", 4)]) (by rfl) sc__law_deeds.nd (pi_list (pe_cal c__law_heads hr (by rfl) (pa_cons (pv 0) (pa_cons (pe_ix ix_list (pv 1) (pe_op op_add (pv 3) pe_int) (fun _ _ => rfl)) pa_nil)))) (blkOk_by (own := [("_law_step", 4)]) (N := N__law_deeds) (sc := defScope s__law_deeds) (by decide +kernel)) (fun _ _ _ _ _ => (pg_name (i := 4) sc__law_deeds.nd rfl (.inl rfl))) (fun _ _ _ _ _ => pts_nil) (fun _ _ _ _ _ => (pe_tup (pa_cons (pv 3) (pa_cons pe_str (pa_cons (pv 4) pa_nil)))))))))))
      (pss_one (ps_ret (pv 2))))), ?_⟩
  refine q_set (ev_nil (R := jD)) fun v H1 e1 p1 => ?_
  refine q_forR (n := xs.length - 1) ((ev_i0 (ev_lenL lenR (ev_var rfl (jLL.mono e1 hx))) ev_c).eq (congrArg V.int (by omega))) (by omega) (fun i σ' H' => ∃ (u : V) (y z : Option V), σ' = [some v1, some v2, some u, y, z] ∧ Ex H H' ∧ Nu (jL jD) H ((List.range i).flatMap (CX.seamK k xs)) u H')
    (fun H2 e2 => ⟨v, none, none, rfl, e1.trans e2, (jL jD).mono (newOf_mono e2) p1⟩) (fun i σ' H' hi pv => ?_) (fun σ' H' pv => ?_)
  · obtain ⟨u, y, z, rfl, ee, hu⟩ := pv
    have hk' := jT.mono ee hk
    have hx' := jLL.mono ee hx
    have g1 := gL_some (xs := xs) (i := i) (by omega)
    have g2 := gL_some (xs := xs) (i := i + 1) (by omega)
    have ok1 := hall _ (List.mem_of_getElem? g1)
    have ok2 := hall _ (List.mem_of_getElem? g2)
    have l0 : ((List.range i).flatMap (CX.seamK k xs)).length ≤ i * 14 := CX.flat_len _ 14 (fun j => Nat.le_trans (CX.seamK_len k xs j) (by omega)) i
    have l1 := CX.filter_le (List.range k.steps) (CX.fallK k (CX.gL xs i))
    have l2 := CX.filter_le (List.range k.steps) (CX.fallK k (CX.oppK k (CX.gL xs (i + 1))))
    rw [List.length_range] at l1 l2
    refine q_set (ev_cat (H0 := H) (xs := (List.range i).flatMap (CX.seamK k xs)) (ys := (CX.fallsK k (CX.gL xs i)).map (fun s => ⟨i, false, s⟩)) ee (ev_var rfl hu) (Ev.imp (ev_lcA (S := jD) (xs := CX.fallsK k (CX.gL xs i)) (fun s => ⟨i, false, s⟩) (Ev.is (nu1 (ev_c2 (x := k) (y := CX.gL xs i) (ev_var rfl hk') (ev_ixL (j := i) (ev_var rfl hx') (ev_v rfl) rfl g1) ⟨hg, (ok1.sh hg).len⟩))) (by show ((List.range k.steps).filter _).length ≤ 40000; omega) (fun _ => rfl) (fun j s v H3 e3 hs rs => ev_deed (ev_v rfl) ev_c (ev_v (congrArg (fun z => some (some z)) rs)))) fun v H4 e4 p4 => p4.back ee) (by rw [List.length_map]; show _ + ((List.range k.steps).filter _).length ≤ 100000; omega)) fun v4 H4 e4 p4 => ?_
    have ee4 := ee.trans e4
    have hk4 := jT.mono e4 hk'
    have hx4 := jLL.mono e4 hx'
    refine s_set (ev_cat (H0 := H) (xs := (List.range i).flatMap (CX.seamK k xs) ++ (CX.fallsK k (CX.gL xs i)).map (fun s => ⟨i, false, s⟩)) (ys := (CX.headsK k (CX.gL xs (i + 1))).map (fun s => ⟨i, true, s⟩)) ee4 (ev_var rfl p4) (Ev.imp (ev_lcA (S := jD) (xs := CX.headsK k (CX.gL xs (i + 1))) (fun s => ⟨i, true, s⟩) (Ev.is (nu1 (ev_c2 (x := k) (y := CX.gL xs (i + 1)) (ev_var rfl hk4) (ev_ixL (j := i + 1) (ev_var rfl hx4) (ev_i0 (ev_v rfl) ev_c) (by omega) g2) ⟨hg, ok2, Nat.le_trans (hs.mem hg (List.mem_of_getElem? g2)) (by decide)⟩))) (by show ((List.range k.steps).filter _).length ≤ 40000; omega) (fun _ => rfl) (fun j s v H3 e3 hs rs => ev_deed (ev_v rfl) ev_c (ev_v (congrArg (fun z => some (some z)) rs)))) fun v H4 e4 p4 => p4.back ee4) (by rw [List.length_append, List.length_map, List.length_map]; show _ + ((List.range k.steps).filter _).length + ((List.range k.steps).filter _).length ≤ 100000; omega)) fun v5 H5 e5 p5 => ⟨v5, some (.int (i : Int)), z, rfl, ee4.trans e5, ?_⟩
    have er : (List.range (i + 1)).flatMap (CX.seamK k xs) = (List.range i).flatMap (CX.seamK k xs) ++ (CX.fallsK k (CX.gL xs i)).map (fun s => ⟨i, false, s⟩) ++ (CX.headsK k (CX.gL xs (i + 1))).map (fun s => ⟨i, true, s⟩) := by
      rw [List.range_succ, List.flatMap_append, List.append_assoc]
      simp only [List.flatMap_cons, List.flatMap_nil, List.append_nil]
      rfl
    rw [er]
    exact p5
  · obtain ⟨u, y, z, rfl, ee, hu⟩ := pv
    exact s_ret (ev_var (P := Nu (jL jD) H (CX.deedsK k xs)) rfl hu) fun v5 H5 e5 p5 => q v5 H5 _ (ee.trans e5) rfl p5
abbrev spLDone : Sp := sp3 jT jLL jD jLL (fun k xs d => preX k xs ∧ CX.Fit k xs d) (fun k xs d r => r = CX.behK k xs d)
theorem c__law_done (T : Tp K mg C) (D : Dfn K mg "_law_done" s__law_done) (c__law_by : Cal P w K mg base 1 "_law_by" p__law_by spLBy) (c__law_ahead : Cal P w K mg base 4 "_law_ahead" p__law_ahead spLAhead) : Cal P w K mg base 5 "_law_done" p__law_done spLDone := by
  refine cal_mk D sc__law_done (fun _ _ _ _ h => len3 h) (fun _ _ _ _ _ _ us hl => match us, hl with | [_, _, _], _ => rfl) (fun f cdv A outer s H vs Q E hr h => ?_)
  obtain ⟨v1, v2, v3, k, xs, d, rfl, hk, hx, hd, ⟨⟨hg, hs⟩, hfit⟩, q⟩ := h
  have hall := hs.all
  have hz := hs.len
  have hseam := hfit.seam
  have hstep := hfit.step
  refine ⟨_, (pss_cons (ps_asg (pv 2) (pg_tup rfl (pgs_cons (pg_name (i := 3) sc__law_done.nd rfl (.inl rfl)) (pgs_cons (pg_name (i := 4) sc__law_done.nd rfl (.inl rfl)) (pgs_cons (pg_name (i := 5) sc__law_done.nd rfl (.inl rfl)) pgs_nil)))))
      (pss_cons (ps_setLc (i := 6) (own := [("_law_order_here", 7)]) (by rfl) sc__law_done.nd rfl rfl (sw_true rfl rfl rfl (by decide +kernel)) (pi_list (pv 1)) (blkOk_by (own := [("_law_order_here", 7)]) (N := N__law_done) (sc := defScope s__law_done) (by decide +kernel)) (fun _ _ _ _ _ => (pg_name (i := 7) sc__law_done.nd rfl (.inl rfl))) (fun _ _ _ _ _ => pts_nil) (fun _ _ _ _ _ => (pe_callTy (call_lisK (K := K) rfl) (by rfl) T.list (by decide +kernel) (pa_cons (pv 7) pa_nil))))
      (pss_cons (ps_if (pt_cmpR op_eq (pv 4) pe_str (nomark _)) (pss_one (ps_asg (pe_cal c__law_by (hr.mono (by decide)) (by rfl) (pa_cons (pv 0) (pa_cons (pe_ix ix_list (pv 1) (pv 3) (fun _ _ => rfl)) (pa_cons (pv 5) pa_nil)))) (pg_sub (pv 6) (pv 3) set_list))) (pss_one (ps_asg (pe_cal c__law_ahead hr (by rfl) (pa_cons (pv 0) (pa_cons (pe_ix ix_list (pv 1) (pe_op op_add (pv 3) pe_int) (fun _ _ => rfl)) (pa_cons (pv 5) pa_nil)))) (pg_sub (pv 6) (pe_op op_add (pv 3) pe_int) set_list))))
      (pss_one (ps_ret (pv 6)))))), ?_⟩
  refine q_deed (ev_var rfl hd) fun H1 e1 => ?_
  refine q_set (ev_copy (ev_var rfl (jLL.mono e1 hx)) (by omega) (fun _ => rfl) (fun _ => rfl)) fun v H2 e2 p2 => ?_
  obtain ⟨p, ws, rfl, hp1, hp2, hlw, hpw⟩ := nuLL p2
  have hp0 := fresh0 e1 hp1
  have e12 := e1.trans e2
  have hpw' : Paired (jLI.r (nw H p H2)) ws xs := paired_mono (fun _ _ z => jLI.mono (fun a o ha => by
    obtain ⟨h1, h2, h3⟩ := nw_some ha
    rw [nw_at (fresh0 e1 h2) h1]; exact h3) z) hpw
  have fin : ∀ (σ : L2.St) (H5 : Hp) (j : Nat) (x : List Int) (u : V), σ[6]? = some (some (V.ref p)) → Ex H2 H5 → Nu jLI H2 x u H5 → CX.behK k xs d = xs.set j x → tRet (tVar 6) { nx := fun x H' => Q V.non H', rt := Q } σ (upd H5 p (.lst (ws.set j u))) := fun σ H5 j x u h6 e5 hu eb =>
    s_ret (ev_v h6) fun v H6 e6 p6 => by
      cases p6
      refine q _ H6 _ ((ex_upd (e12.trans e5) hp0).trans e6) eb.symm (jL_new hp0 (e6 _ _ upd_same) ?_)
      refine paired_mono (fun _ _ z => jLI.mono ((nw_new (p := p)).trans (newOf_mono e6)) z) (paired_set j (paired_mono (fun _ _ z => jLI.mono ((nw_mono e5).trans nw_upd) z) hpw') (jLI.mono ?_ hu))
      exact (nw_of e12 (by rw [hp2]; exact fun z => nomatch z)).trans nw_upd
  have g1 := gL_some (xs := xs) (i := d.seam) (by omega)
  have g2 := gL_some (xs := xs) (i := d.seam + 1) (by omega)
  have ok1 := hall _ (List.mem_of_getElem? g1)
  have ok2 := hall _ (List.mem_of_getElem? g2)
  refine q_if ((et_test (ev_eq (ev_v rfl) ev_c rfl)).eq (sd_up d.up)) (fun hu H3 e3 => ?_) (fun hu H3 e3 => ?_)
  · have hk3 := jT.mono (e12.trans e3) hk
    have hx3 := jLL.mono (e12.trans e3) hx
    refine s_setA (e3 _ _ hp2) (nu1 (ev_c3 (x := k) (y := CX.gL xs d.seam) (z := d.step) (ev_var rfl hk3) (ev_ixL (j := d.seam) (ev_var rfl hx3) (ev_v rfl) rfl g1) (ev_v rfl) ⟨hg, (ok1.sh hg).len, hstep⟩)) (ev_v rfl) (ev_v rfl) (j := d.seam) rfl (by omega) fun u H5 e5 pu => ?_
    exact fin _ H5 d.seam _ u rfl (e3.trans e5) (pu.back e3) (if_pos hu)
  · have hk3 := jT.mono (e12.trans e3) hk
    have hx3 := jLL.mono (e12.trans e3) hx
    refine s_setA (e3 _ _ hp2) (nu1 (ev_c3 (x := k) (y := CX.gL xs (d.seam + 1)) (z := d.step) (ev_var rfl hk3) (ev_ixL (j := d.seam + 1) (ev_var rfl hx3) (ev_i0 (ev_v rfl) ev_c) (by omega) g2) (ev_v rfl) ⟨⟨hg, ok2, Nat.le_trans (hs.mem hg (List.mem_of_getElem? g2)) (by decide)⟩, hstep⟩)) (ev_v rfl) (ev_i0 (ev_v rfl) ev_c) (j := d.seam + 1) (by omega) (by omega) fun u H5 e5 pu => ?_
    exact fin _ H5 (d.seam + 1) _ u rfl (e3.trans e5) (pu.back e3) (if_neg (by rw [hu]; exact Bool.false_ne_true))
end
end SL
end
section
set_option Elab.async false
set_option linter.all false
set_option maxRecDepth 100000
set_option maxHeartbeats 4000000
set_option autoImplicit false
namespace SL
open PySem PySem.Spec PyProof.Rows L2
section
variable {P : Program} {w : World} {K : PySem.W.Frag} {mg : Str → Option Value} {base : Heap} {C : Addr}

theorem dec_nat (a b : Nat) : decide ((a : Int) = (b : Int)) = (a == b) := by
  by_cases h : a = b
  · subst h; rw [decide_eq_true rfl]; exact (beq_self_eq_true a).symm
  · exact (decide_eq_false (fun e : (a : Int) = (b : Int) => h (Int.ofNat.inj e))).trans (beq_eq_false_iff_ne.mpr h).symm
/-! ### each seam right -/
structure SeamsOk (k : CX.Kd) (w : List Int) (line : List CX.Deed) (n : Nat) : Prop where
  good : k.good
  ok : CX.Okk k w
  cr : CX.crK k w ≤ 60
  n1 : 1 ≤ n
  n8 : n ≤ 8
  each : ∀ i, i < n - 1 → ∀ b, (CX.sel i b line).length = CX.crK k w ∧ (CX.sel i b line).reverse.foldl (CX.byK k) k.start = w ∧ ∀ s, s ∈ CX.sel i b line → s < k.steps
  len : line.length = 2 * CX.crK k w * (n - 1)
theorem SeamsOk.le {k : CX.Kd} {w : List Int} {line : List CX.Deed} {n : Nat} (h : SeamsOk k w line n) : line.length ≤ 840 := by
  have h1 := h.len
  have h2 : 2 * CX.crK k w * (n - 1) ≤ 120 * 7 := Nat.mul_le_mul (by have := h.cr; omega) (by have := h.n8; omega)
  omega
abbrev spLSeam : Sp := sp4 jT jLI (jL jD) jN jB (fun k w line n => SeamsOk k w line n) (fun k w line n r => r = true)
theorem c__law_each_seam_right (T : Tp K mg C) (D : Dfn K mg "_law_each_seam_right" s__law_each_seam_right) (c__law_start : Cal P w K mg base 1 "_law_start" p__law_start spLStart) (c__law_row : Cal P w K mg base 3 "_law_row" p__law_row spLRow) (c__law_made : Cal P w K mg base 2 "_law_made" p__law_made spLMade) : Cal P w K mg base 4 "_law_each_seam_right" p__law_each_seam_right spLSeam := by
  refine cal_mk D sc__law_each_seam_right (fun _ _ _ _ h => len4 h) (fun _ _ _ _ _ _ us hl => match us, hl with | [_, _, _, _], _ => rfl) (fun f cdv A outer s H vs Q E hr h => ?_)
  obtain ⟨v1, v2, v3, v4, k, w, line, n, rfl, hk, hw, hli, hn, hp, q⟩ := h
  have hg := hp.good
  have hcr := hp.cr
  have hn1 := hp.n1
  have hn8 := hp.n8
  have hll := hp.le
  cases hn
  refine ⟨_, (pss_cons (ps_set (i := 4) sc__law_each_seam_right.nd rfl (.inl rfl) (pe_callB call_len_seq (by rfl) T.len (by decide +kernel) (pa_cons (pe_cal c__law_row hr (by rfl) (pa_cons (pv 0) (pa_cons (pv 1) pa_nil))) pa_nil)))
      (pss_cons (ps_for PassesOwn.never rfl (pi_range1 rfl T.range (pa_cons (pe_op op_sub (pv 3) pe_int) pa_nil)) (pg_name (i := 5) sc__law_each_seam_right.nd rfl (.inr rfl)) (pss_one (ps_for PassesOwn.never rfl (pi_list (pe_lst (pa_cons pe_str (pa_cons pe_str pa_nil)))) (pg_name (i := 6) sc__law_each_seam_right.nd rfl (.inr rfl)) (pss_cons (ps_setLc (i := 7) (own := [("_law_other", 8), ("_law_beside", 9), ("_law_step", 10)]) (by rfl) sc__law_each_seam_right.nd rfl rfl (sw_true rfl rfl rfl (by decide +kernel)) (pi_list (pv 2)) (blkOk_by (own := [("_law_other", 8), ("_law_beside", 9), ("_law_step", 10)]) (N := N__law_each_seam_right) (sc := defScope s__law_each_seam_right) (by decide +kernel)) (fun _ _ _ _ _ => (pg_tupK (K := K) (n := 3) rfl rfl (pgs_cons (pg_name (i := 8) sc__law_each_seam_right.nd rfl (.inl rfl)) (pgs_cons (pg_name (i := 9) sc__law_each_seam_right.nd rfl (.inl rfl)) (pgs_cons (pg_name (i := 10) sc__law_each_seam_right.nd rfl (.inl rfl)) pgs_nil))))) (fun _ _ _ _ _ => pts_one (PW.pt (pw_and (pt_cmpR op_eq (pv 8) (pv 5) (nomark _)) (pw_and1 (pt_cmpR op_eq (pv 9) (pv 6) (nomark _)))))) (fun _ _ _ _ _ => (pv 10)))
      (pss_one (ps_if (PW.pt (pw_or (pt_cmpR op_ne (pe_callB call_len_seq (by rfl) T.len (by decide +kernel) (pa_cons (pv 7) pa_nil)) (pv 4) (nomark _)) (pw_or1 (pt_cmpR (op_neD hr.units) (pe_cal c__law_made (hr.mono (by decide)) (by rfl) (pa_cons (pv 0) (pa_cons (pe_cal c__law_start (hr.mono (by decide)) (by rfl) (pa_cons (pv 0) pa_nil)) (pa_cons (pe_revL (pv 7)) pa_nil)))) (pv 1) (nomark _))))) (pss_one (ps_ret pe_bl)) pss_nil))))))
      (pss_one (ps_ret (pe_cmpR op_eq (pe_callB call_len_seq (by rfl) T.len (by decide +kernel) (pa_cons (pv 2) pa_nil)) (pe_op op_mul (pe_op op_mul pe_int (pv 4)) (pe_op op_sub (pv 3) pe_int)) (nomark _)))))), ?_⟩
  refine q_set (P := Eqv (.int (CX.crK k w : Nat))) (ev_lenE lenR (ev_c2 (x := k) (y := w) (ev_var rfl hk) (ev_var rfl hw) ⟨hg, hp.ok, by omega⟩) (fun r hr1 => (show CX.RedK k r w from hr1).len.symm)) fun v H1 e1 p1 => ?_
  cases p1
  refine q_forR (n := n - 1) ((ev_i0 (ev_v rfl) ev_c).eq (congrArg V.int (by omega))) (by omega) (fun i σ' H' => ∃ a b c d e f : Option V, σ' = [some v1, some v2, some v3, some (.int (n : Int)), some (.int (CX.crK k w : Nat)), a, b, c, d, e, f] ∧ Ex H H') (fun H2 e2 => ⟨none, none, none, none, none, none, rfl, e1.trans e2⟩) (fun i σ' H' hi pv => ?_) (fun σ' H' pv => ?_)
  · obtain ⟨a, b, c, d, e, f, rfl, ee⟩ := pv
    refine s_forX (R := jSd) (xs := [true, false]) ev_sides (fun j σ2 H2 => ∃ b c d e f : Option V, σ2 = [some v1, some v2, some v3, some (.int (n : Int)), some (.int (CX.crK k w : Nat)), some (.int (i : Int)), b, c, d, e, f] ∧ Ex H H2) (fun H2 e2 => ⟨b, c, d, e, f, rfl, ee.trans e2⟩) (fun j sd u σ2 H2 N e2 ru hj pv hN => ?_) (fun σ2 H2 e2 pv => ?_)
    · obtain ⟨b, c, d, e, f, rfl, ee2⟩ := pv
      cases ru
      have hk2 := jT.mono ee2 hk
      obtain ⟨s1, s2, s3⟩ := hp.each i hi sd
      refine q_set (P := Nu (jL jN) H2 (CX.sel i sd line)) (ev_lcG (R := jD) (S := jN) (xs := line) (fun v x => [some v1, some v2, some v3, some (.int (n : Int)), some (.int (CX.crK k w : Nat)), some (.int (i : Int)), some (.str (sdS sd)), c, some (.int (x.seam : Int)), some (.str (sdS x.up)), some (.int (x.step : Int))]) (fun x => x.seam == i && x.up == sd) (fun x => x.step) (ev_var rfl ((jL jD).mono ee2 hli)) (by omega)
        (fun x v H3 k2 rx hk2 => by obtain ⟨a, rfl, ha⟩ := rx; exact ⟨a, _, rfl, .inl (.inl ha), rfl, _, _, rfl, _, _, rfl, _, _, rfl, rfl, hk2⟩) (fun _ _ => rfl)
        (fun j x v H3 e3 hx rx => et_and (a := x.seam == i) (b := x.up == sd) ((et_eqI (a := (x.seam : Int)) (b := (i : Int)) (ev_v rfl) (ev_v rfl)).eq (dec_nat x.seam i)) fun _ => (et_test (ev_eq (ev_v rfl) (ev_v rfl) rfl)).eq (sd_eq x.up sd))
        (fun j x v H3 e3 hx rx _ => ev_v rfl)) fun u H3 e3 p3 => ?_
      have hk3 := jT.mono e3 hk2
      have hw3 := jLI.mono (ee2.trans e3) hw
      refine s_skip ((et_or (et_neI (ev_lenL lenR (ev_var rfl p3.is)) (ev_v rfl)) fun _ => et_test (ev_neD encLI (x := w) (y := w) ((isN (ev_c3 (x := k) (y := k.start) (z := (CX.sel i sd line).reverse) (ev_var rfl hk3) (isN (ev_c1 (ev_var rfl hk3) hg)) (ev_revN (ev_var rfl p3.is)).is ⟨hg, CX.start_len, fun s hs => s3 s (List.mem_reverse.mp hs)⟩)).imp fun v H4 e4 p4 => by rw [s2] at p4; exact p4) (ev_var rfl hw3))).eq (by rw [decide_eq_true (by rw [s1]), decide_eq_true rfl]; rfl)) fun H4 e4 => ?_
      exact hN _ H4 (e3.trans e4) ⟨_, _, _, _, _, rfl, (ee2.trans e3).trans e4⟩
    · obtain ⟨b, c, d, e, f, rfl, ee2⟩ := pv
      exact ⟨_, b, c, d, e, f, rfl, ee2⟩
  · obtain ⟨a, b, c, d, e, f, rfl, ee⟩ := pv
    have hm1 : CMul 2 (CX.crK k w : Int) := .inl (by decide)
    have hm2 : CMul (2 * (CX.crK k w : Int)) ((n : Int) - 1) := .inr ⟨by omega, by omega⟩
    have hlen := hp.len
    have e1 : ((line.length : Nat) : Int) = 2 * (CX.crK k w : Int) * ((n : Int) - 1) := by
      rw [hlen, show ((n : Int) - 1) = ((n - 1 : Nat) : Int) by omega]
      simp
    refine s_ret (P := Eqv (.bl true)) ((ev_eq (ev_lenL lenR (ev_var rfl ((jL jD).mono ee hli))) (ev_i (ev_i ev_c (ev_v rfl) hm1) (ev_i0 (ev_v rfl) ev_c) hm2) rfl).eq (congrArg V.bl (by rw [dec_int]; exact decide_eq_true e1))) fun v H3 e3 p3 => ?_
    exact q v H3 true (ee.trans e3) rfl p3
end
end SL
end
section
set_option Elab.async false
set_option linter.all false
set_option maxRecDepth 100000
set_option maxHeartbeats 4000000
set_option autoImplicit false
/-! Where one list, that at g, changes: the rest stands. -/
namespace SL
open PySem PySem.Spec PyProof.Rows L2
def ExG (g : Addr) (H H' : Hp) : Prop := Ex (wo g H) (wo g H')
theorem ExG.refl {g : Addr} {H : Hp} : ExG g H H := Evl.Ex.refl _
theorem ExG.trans {g : Addr} {H H1 H2 : Hp} (a : ExG g H H1) (b : ExG g H1 H2) : ExG g H H2 := Evl.Ex.trans a b
theorem Ex.g {g : Addr} {H H' : Hp} (e : Ex H H') : ExG g H H' := wo_mono e
theorem ExG.upd {g : Addr} {H : Hp} {o : HO} : ExG g H (upd H g o) := wo_upd
theorem ExG.at {g a : Addr} {H H' : Hp} {o : HO} (e : ExG g H H') (h : a ≠ g) (ha : H a = some o) : H' a = some o := by
  have := e a o (by rw [wo_at h]; exact ha)
  rw [wo_at h] at this
  exact this
/-- the generator's list: three ints -/
def Gen (g : Addr) (m : Int) (H : Hp) : Prop := ∃ a b c : Int, H g = some (.lst [.int a, .int b, .int c]) ∧ 0 ≤ a ∧ 0 ≤ c ∧ c ≤ m
theorem Gen.mono {g : Addr} {m : Int} {H H' : Hp} (h : Gen g m H) (e : Ex H H') : Gen g m H' := by
  obtain ⟨a, b, c, h1, h2⟩ := h
  exact ⟨a, b, c, e _ _ h1, h2⟩
theorem Gen.up {g : Addr} {m m' : Int} {H : Hp} (h : Gen g m H) (e : m ≤ m') : Gen g m' H := by
  obtain ⟨a, b, c, h1, h2, h3, h4⟩ := h
  exact ⟨a, b, c, h1, h2, h3, by omega⟩
theorem Gen.ne {g : Addr} {m : Int} {H : Hp} (h : Gen g m H) : H g ≠ none := by
  obtain ⟨a, b, c, h1, _⟩ := h
  rw [h1]; exact fun z => nomatch z
section
variable {K : PySem.W.Frag} {X : Cx} {σ : L2.St} {H H' H0 : Hp} {ta tb tc td te tl : TE} {tt tu : TT} {x y z v : V} {P P' P1 P2 P3 : V → Hp → Prop} {D : Ends} {ts tw tz : TS} {i j : Nat} {g : Addr} {α : Type} {R : RP α}
/-- evaluated once, where the rest stands -/
def EvW (g : Addr) (te : TE) (σ : L2.St) (H : Hp) (P : V → Hp → Prop) : Prop := ∀ Q : VK, (∀ v H2, ExG g H H2 → P v H2 → Q v H2) → te σ H Q
theorem Ev.w (h : Ev te σ H P) : EvW g te σ H P := fun Q q => h H (Evl.Ex.refl H) Q fun v H2 e p => q v H2 (Ex.g e) p
theorem qw_set (h : EvW g te σ H P) (k : ∀ v H1, ExG g H H1 → P v H1 → tz D (σ.set i (some v)) H1) : tSeq (tAsg te (gName i)) tz D σ H := h _ k
theorem sw_set (h : EvW g te σ H P) (k : ∀ v H1, ExG g H H1 → P v H1 → D.nx (σ.set i (some v)) H1) : tAsg te (gName i) D σ H := h _ k
theorem sw_ret (h : EvW g te σ H P) (k : ∀ v H1, ExG g H H1 → P v H1 → D.rt v H1) : tRet te D σ H := h _ k
/-- big powers -/
def CPowW (i j : Int) : Prop := 0 ≤ j ∧ (Builtin.Int.intBits i : Int) * j ≤ 2 ^ 27
theorem op_powW : OpR X (binaryOp .Pow) (rI CPowW fun i j => .int (i ^ j.toNat)) := opI fun _ _ _ _ _ _ _ hc q => pow_int hc.1 hc.2 q
/-- x.bit_length() -/
theorem ev_bits {n : Int} (h : Ev ta σ H (Eqv (.int n))) : Ev (tBits ta) σ H (Eqv (.int (Builtin.Int.intBits n : Nat))) := fun H1 e1 Q q => h H1 e1 _ fun v H2 e2 p => by
  cases p
  exact ⟨n, rfl, q _ H2 e2 rfl⟩
theorem bits_small {n : Nat} (h : n < 1000) : Builtin.Int.intBits (n : Int) / 30 = 0 := by
  unfold Builtin.Int.intBits
  split
  · rfl
  · have h1 : (n : Int).natAbs = n := by omega
    rw [h1]
    have h2 : n ≠ 0 := fun e => by
      rename_i c
      exact c (by rw [e]; rfl)
    have h3 : n.log2 < 10 := (Nat.log2_lt h2).mpr (by omega)
    omega
theorem cutV_upto (xs : List V) (a : Nat) : cutV xs none (some (a : Int)) = xs.take a := by
  unfold cutV
  rw [HT.sIx_nat, HT.sIx_none, List.drop_zero, Nat.sub_zero]
  by_cases h : a ≤ xs.length
  · rw [show min a xs.length = a by omega]
  · rw [show min a xs.length = xs.length by omega, List.take_length, List.take_of_length_le (by omega)]
/-- a list of ints that is only read: tracked, frozen or of the top -/
theorem sqL_mono {K : PySem.W.Frag} {H H' : Hp} {a : Addr} {xs : List V} (e : Ex H H') (h : SqL K H a xs) : SqL K H' a xs := by
  rcases h with h | h
  · rcases h with h | ⟨o, h⟩
    · exact .inl (.inl (e _ _ h))
    · exact .inl (.inr ⟨o, e _ _ h⟩)
  · exact .inr h
def jSq (K : PySem.W.Frag) : RP (List Int) := ⟨fun H v xs => ∃ a, v = .ref a ∧ SqL K H a (xs.map V.int), fun e ⟨a, h1, h2⟩ => ⟨a, h1, sqL_mono e h2⟩⟩
theorem ev_ixS {xs : List Int} {i x : Int} {j : Nat} (ha : Ev ta σ H (Is (jSq K) xs)) (hb : Ev tb σ H (Eqv (.int i))) (e : i = (j : Int)) (h : xs[j]? = some x) : Ev (tOp (rIxL K) ta tb) σ H (Eqv (.int x)) :=
  ev_opG ha hb fun u w H1 _ ⟨a, h1, h2⟩ h3 Q q => by
    cases h1; cases h3
    exact ⟨a, _, i, .int x, rfl, rfl, h2, atI_of e (by rw [List.getElem?_map, h]; rfl), q _ H1 (Evl.Ex.refl H1) rfl⟩
theorem ev_lenS {xs : List Int} {r : List V → Hp → VK → Prop} (hr : ∀ (p : Addr) (ys : List V) (H : Hp) (Q : VK), SqL K H p ys → Q (.int ys.length) H → r [.ref p] H Q) (ha : Ev ta σ H (Is (jSq K) xs)) : Ev (tCB r (tCons ta tNil)) σ H (Eqv (.int xs.length)) :=
  ev_cb (ea_1 ha) fun vs H1 _ ⟨v, e, a, h1, h2⟩ Q q => by
    subst e h1
    refine hr a _ H1 Q h2 ?_
    rw [List.length_map]
    exact q _ H1 (Evl.Ex.refl H1) rfl
theorem ev_uptoS {xs : List Int} {a : Nat} {n : Int} (h : Ev te σ H (Is (jSq K) xs)) (hi : Ev ta σ H (Eqv (.int n))) (en : n = (a : Int)) : Ev (tSl (rSlL K) te tNoPart (tPart ta)) σ H (Is jLI (xs.take a)) := fun H1 e1 Q q =>
  h H1 e1 _ fun v H2 e2 ⟨b, ev, hb⟩ => hi H2 (e1.trans e2) _ fun w H3 e3 p => by
    subst ev
    cases p
    subst en
    refine ⟨(a : Int), rfl, b, _, rfl, sqL_mono e3 hb, fun l hl => q _ _ ((e2.trans e3).trans (Evl.Ex.new hl)) ⟨l, rfl, ?_⟩⟩
    rw [upd_same, cutV_upto, List.map_take]
/-- xs[:a] of ints -/
theorem ev_uptoI {xs : List Int} {a : Nat} {n : Int} (h : Ev te σ H (Is jLI xs)) (hi : Ev ta σ H (Eqv (.int n))) (en : n = (a : Int)) : Ev (tSl (rSlL K) te tNoPart (tPart ta)) σ H (Is jLI (xs.take a)) := fun H1 e1 Q q =>
  h H1 e1 _ fun v H2 e2 ⟨b, ev, hb⟩ => hi H2 (e1.trans e2) _ fun w H3 e3 p => by
    subst ev
    cases p
    subst en
    refine ⟨(a : Int), rfl, b, _, rfl, .inl (.inl (e3 _ _ hb)), fun l hl => q _ _ ((e2.trans e3).trans (Evl.Ex.new hl)) ⟨l, rfl, ?_⟩⟩
    rw [upd_same, cutV_upto, List.map_take]
end
end SL
end
section
set_option Elab.async false
set_option linter.all false
set_option maxRecDepth 100000
set_option maxHeartbeats 4000000
set_option autoImplicit false
namespace SL
open PySem PySem.Spec PyProof.Rows L2
section
variable {P : Program} {w : World} {K : PySem.W.Frag} {mg : Str → Option Value} {base : Heap} {C : Addr}

/-! ### the law's numbers -/
theorem mod_lt (a : Int) {b : Int} (h : 0 < b) : 0 ≤ a % b ∧ a % b < b := ⟨Int.emod_nonneg _ (by omega), Int.emod_lt_of_pos _ h⟩
abbrev spLHash : Sp := sp2 jI jI jI (fun b c => 0 ≤ c ∧ c ≤ 2 ^ 40) (fun b c r => True)
theorem c__law_hash (T : Tp K mg C) (D : Dfn K mg "_law_hash" s__law_hash) : Cal P w K mg base 1 "_law_hash" p__law_hash spLHash := by
  refine cal_mk D sc__law_hash (fun _ _ _ _ h => len2 h) (fun _ _ _ _ _ _ us hl => match us, hl with | [_, _], _ => rfl) (fun f cdv A outer s H vs Q E hr h => ?_)
  obtain ⟨v1, v2, b, c, rfl, hb, hc, ⟨h0, h1⟩, q⟩ := h
  cases hb; cases hc
  refine ⟨_, (pss_cons (ps_set (i := 2) sc__law_hash.nd rfl (.inl rfl) (pe_op op_mod (pe_callTy call_int1 (by rfl) T.int (by decide +kernel) (pa_cons (pe_op op_add (pe_op op_add (pe_op op_add (pe_op op_mul (pv 0) pe_int) (pe_op op_mul (pe_op op_mul pe_int (pv 1)) (pv 1))) (pe_op op_mul pe_int (pv 1))) pe_int) pa_nil)) pe_int))
      (pss_cons (ps_set (i := 2) sc__law_hash.nd rfl (.inl rfl) (pe_op op_mod (pe_callTy call_int1 (by rfl) T.int (by decide +kernel) (pa_cons (pe_op op_add (pe_op op_add (pe_op op_mul (pv 2) (pv 2)) (pe_op op_mul pe_int (pv 1))) pe_int) pa_nil)) pe_int))
      (pss_one (ps_ret (pe_op op_mod (pe_callTy call_int1 (by rfl) T.int (by decide +kernel) (pa_cons (pe_op op_mul (pv 2) pe_int) pa_nil)) pe_int))))), ?_⟩
  have h140 : (2 : Int) ^ 40 < 2 ^ 64 := by decide
  refine q_set (P := fun v _ => ∃ m : Int, v = .int m ∧ 0 ≤ m ∧ m < 2147483629) (Ev.imp (ev_i (ev_intI (fun n H Q q => .inl ⟨n, rfl, q⟩) (ev_i0 (ev_i0 (ev_i0 (ev_i (ev_v rfl) ev_c (.inr (by decide))) (ev_i (ev_i ev_c (ev_v rfl) (.inl (by decide))) (ev_v rfl) (.inr ⟨by omega, by omega⟩))) (ev_i ev_c (ev_v rfl) (.inl (by decide)))) ev_c)) ev_c (by decide)) fun v H1 e1 p => ⟨_, p, mod_lt _ (by decide)⟩) fun v H1 e1 p1 => ?_
  obtain ⟨m, rfl, m0, m1⟩ := p1
  refine q_set (P := fun v _ => ∃ m : Int, v = .int m) (Ev.imp (ev_i (ev_intI (fun n H Q q => .inl ⟨n, rfl, q⟩) (ev_i0 (ev_i0 (ev_i (ev_v rfl) (ev_v rfl) (.inr ⟨by omega, by omega⟩)) (ev_i ev_c (ev_v rfl) (.inl (by decide)))) ev_c)) ev_c (by decide)) fun v H1 e1 p => ⟨_, p⟩) fun v H2 e2 p2 => ?_
  obtain ⟨m2, rfl⟩ := p2
  exact s_ret (ev_i (ev_intI (fun n H Q q => .inl ⟨n, rfl, q⟩) (ev_i (ev_v rfl) ev_c (.inr (by decide)))) ev_c (by decide)) fun v H3 e3 p3 => q v H3 _ ((e1.trans e2).trans e3) trivial p3
abbrev spRnd : Sp := fun vs H Q _ => ∃ (g : Addr) (n : Nat) (m : Int), vs = [.ref g, .int n] ∧ 0 < n ∧ n < 1000 ∧ m ≤ 1000000000 ∧ Gen g m H ∧ ∀ (r : Nat) H', r < n → ExG g H H' → Gen g (m + 1) H' → Q (.int r) H'
theorem c__law_random (T : Tp K mg C) (D : Dfn K mg "_law_random" s__law_random) (c__law_hash : Cal P w K mg base 1 "_law_hash" p__law_hash spLHash) : Cal P w K mg base 2 "_law_random" p__law_random spRnd := by
  refine cal_mk D sc__law_random (fun _ _ _ _ h => by obtain ⟨_, _, _, rfl, _⟩ := h; rfl) (fun _ _ _ _ _ _ us hl => match us, hl with | [_, _], _ => rfl) (fun f cdv A outer s H vs Q E hr h => ?_)
  obtain ⟨g, n, m, rfl, n0, n1, hm, ⟨a, b, c, hg, a0, c0, cm⟩, q⟩ := h
  have hr' := hr
  refine ⟨_, (pss_cons (ps_if (pt_cmpR op_gt (pe_ix ix_list (pv 0) pe_int (fun _ _ => rfl)) pe_int (nomark _)) (pss_cons (ps_set (i := 2) sc__law_random.nd rfl (.inl rfl) (pe_op op_mod (pe_callTy call_int1 (by rfl) T.int (by decide +kernel) (pa_cons (pe_ix ix_list (pv 0) pe_int (fun _ _ => rfl)) pa_nil)) (pv 1)))
      (pss_cons (ps_asg (pe_op op_fdiv (pe_ix ix_list (pv 0) pe_int (fun _ _ => rfl)) (pv 1)) (pg_sub (pv 0) pe_int set_list))
      (pss_one (ps_ret (pv 2))))) pss_nil)
      (pss_cons (ps_set (i := 2) sc__law_random.nd rfl (.inl rfl) pe_int)
      (pss_cons (ps_for PassesOwn.never rfl (pi_range1 rfl T.range (pa_cons (pe_op op_add pe_int (pe_op op_fdiv (pe_bits (pv 1)) pe_int)) pa_nil)) (pg_name (i := 3) sc__law_random.nd rfl (.inl rfl)) (pss_cons (ps_asg (pe_op op_add (pe_ix ix_list (pv 0) pe_int (fun _ _ => rfl)) pe_int) (pg_sub (pv 0) pe_int set_list))
      (pss_one (ps_set (i := 2) sc__law_random.nd rfl (.inl rfl) (pe_op op_add (pe_op op_mul (pv 2) pe_int) (pe_cal c__law_hash hr' (by rfl) (pa_cons (pe_ix ix_list (pv 0) pe_int (fun _ _ => rfl)) (pa_cons (pe_ix ix_list (pv 0) pe_int (fun _ _ => rfl)) pa_nil))))))))
      (pss_one (ps_ret (pe_op op_mod (pe_callTy call_int1 (by rfl) T.int (by decide +kernel) (pa_cons (pv 2) pa_nil)) (pv 1))))))), ?_⟩
  have ix : ∀ (H1 : Hp) (xs : List Int) (σ : L2.St), σ[0]? = some (some (V.ref g)) → H1 g = some (.lst (xs.map V.int)) → ∀ (j : Nat) (x : Int), xs[j]? = some x → Ev (tOp (rIxL K) (tVar 0) (tC (.int (j : Int)))) σ H1 (Eqv (.int x)) := fun H1 xs σ h0 h1 j x hx => ev_ixI (ev_var (P := Is jLI xs) h0 ⟨g, rfl, h1⟩) ev_c rfl hx
  have fin : ∀ (d : Int) (H1 : Hp), ExG g H H1 → Gen g (m + 1) H1 → Q (.int (d % (n : Int))) H1 := fun d H1 e h => by
    obtain ⟨h1, h2⟩ := mod_lt d (b := (n : Int)) (by omega)
    have e1 : d % (n : Int) = ((d % (n : Int)).toNat : Int) := by omega
    rw [e1]
    exact q _ H1 (by omega) e h
  refine q_if (b := decide (0 < a)) (et_i (ix H [a, b, c] _ rfl hg 0 a rfl) ev_c) (fun hb H1 e1 => ?_) (fun hb H1 e1 => ?_)
  · refine q_set (ev_i (ev_intI (fun n H Q q => .inl ⟨n, rfl, q⟩) (ix H1 [a, b, c] _ rfl (e1 _ _ hg) 0 a rfl)) (ev_v rfl) (by omega)) fun v H2 e2 p2 => ?_
    cases p2
    have e12 := e1.trans e2
    refine s_setI (D := { nx := _, rt := _, bk := _, ct := _ }) (xs := [a, b, c]) (j := 0) (z := a / (n : Int)) (l := g) (e12 _ _ hg) (ev_i (ix H2 [a, b, c] _ rfl (e12 _ _ hg) 0 a rfl) (ev_v rfl) ⟨by omega, by omega⟩) (ev_v rfl) ev_c rfl (by simp) fun H3 e3 => ?_
    refine s_ret (ev_v rfl) fun v H4 e4 p4 => ?_
    cases p4
    refine fin a H4 ((Ex.g (e12.trans e3)).trans (ExG.upd.trans (Ex.g e4))) ⟨a / (n : Int), b, c, e4 _ _ upd_same, Int.ediv_nonneg a0 (by omega), c0, by omega⟩
  · refine q_set (ev_c (v := .int 0)) fun v H2 e2 p2 => ?_
    cases p2
    have e12 := e1.trans e2
    dsimp only
    refine q_forR (n := 1) ?_ (by decide) (fun i σ' H' => ∃ (d : Int) (t : Option V), σ' = [some (.ref g), some (.int (n : Int)), some (.int d), t] ∧ ExG g H H' ∧ H' g = some (.lst [.int a, .int b, .int (c + i)]))
      (fun H3 e3 => ⟨0, none, rfl, Ex.g (e12.trans e3), by rw [(e12.trans e3) _ _ hg]; simp⟩) (fun i σ' H' hi pv => ?_) (fun σ' H' pv => ?_)
    · refine Ev.eq (ev_i0 (i := 1) (j := ((Builtin.Int.intBits (n : Int) : Nat) : Int) / 30) ev_c (ev_i (ev_bits (ev_v rfl)) ev_c ⟨by decide, by decide⟩)) (congrArg V.int ?_)
      rw [show ((Builtin.Int.intBits (n : Int) : Nat) : Int) / 30 = ((Builtin.Int.intBits (n : Int) / 30 : Nat) : Int) from rfl, bits_small n1]
      rfl
    · obtain ⟨d, t, rfl, ee, hg'⟩ := pv
      have hi0 : i = 0 := by omega
      subst hi0
      have hg'' : H' g = some (.lst ([a, b, c].map V.int)) := by rw [hg']; simp
      refine s_setI (D := { nx := _, rt := _, bk := _, ct := _ }) (xs := [a, b, c]) (j := 2) (z := c + 1) (l := g) hg'' (ev_i0 (ix H' [a, b, c] _ rfl hg'' 2 c rfl) ev_c) (ev_v rfl) ev_c rfl (by simp) fun H3 e3 => ?_
      have hg3 : (upd H3 g (.lst (([a, b, c].set 2 (c + 1)).map V.int))) g = some (.lst ([a, b, c + 1].map V.int)) := upd_same
      have e3' : ExG g H (upd H3 g (.lst (([a, b, c].set 2 (c + 1)).map V.int))) := (ee.trans (Ex.g e3)).trans ExG.upd
      generalize upd H3 g (.lst (([a, b, c].set 2 (c + 1)).map V.int)) = H4 at hg3 e3' ⊢
      refine s_set (P := fun v _ => ∃ m : Int, v = .int m) (ev_opG (P2 := fun v _ => ∃ m : Int, v = .int m) (ev_i (ev_v rfl) ev_c (.inr (by decide))) (Ev.imp (ev_c2 (x := b) (y := c + 1) (isI (ix H4 [a, b, c + 1] _ rfl hg3 1 b rfl)) (isI (ix H4 [a, b, c + 1] _ rfl hg3 2 (c + 1) rfl)) ⟨by omega, Int.le_trans (b := 1000000001) (by omega) (by decide)⟩) fun v H5 e5 ⟨r, _, hr⟩ => ⟨r, hr⟩) fun u w H5 e5 p5 ⟨r, hr⟩ Q q => by
        cases p5
        subst hr
        exact ⟨_, _, rfl, rfl, q _ H5 (Evl.Ex.refl _) ⟨_, rfl⟩⟩) fun v H5 e5 p5 => ?_
      obtain ⟨m5, rfl⟩ := p5
      exact ⟨m5, _, rfl, e3'.trans (Ex.g e5), e5 _ _ hg3⟩
    · obtain ⟨d, t, rfl, ee, hg'⟩ := pv
      refine s_ret (ev_i (ev_intI (fun n H Q q => .inl ⟨n, rfl, q⟩) (ev_v rfl)) (ev_v rfl) (by omega)) fun v H3 e3 p3 => ?_
      cases p3
      exact fin d H3 (ee.trans (Ex.g e3)) ⟨a, b, c + 1, e3 _ _ hg', a0, by omega, by omega⟩
abbrev spLCell (K : PySem.W.Frag) : Sp := sp2 (jSq K) jN jI (fun xs i => True) (fun xs i r => True)
theorem c__law_cell (T : Tp K mg C) (D : Dfn K mg "_law_cell" s__law_cell) : Cal P w K mg base 1 "_law_cell" p__law_cell (spLCell K) := by
  refine cal_mk D sc__law_cell (fun _ _ _ _ h => len2 h) (fun _ _ _ _ _ _ us hl => match us, hl with | [_, _], _ => rfl) (fun f cdv A outer s H vs Q E hr h => ?_)
  obtain ⟨v1, v2, xs, i, rfl, hx, hi, _, q⟩ := h
  cases hi
  refine ⟨_, (pss_cons (ps_if (pt_cmpR op_lt (pv 1) (pe_callB call_len_seq (by rfl) T.len (by decide +kernel) (pa_cons (pv 0) pa_nil)) (nomark _)) (pss_one (ps_ret (pe_ix ix_list (pv 0) (pv 1) (fun _ _ => rfl)))) pss_nil)
      (pss_one (ps_ret (pe_op op_mod (pe_callB (cr_sum rfl) (by rfl) T.sum (by decide +kernel) (pa_cons (pe_slice sl_list (pv 0) po_none (po_some pe_int)) pa_nil)) pe_int)))), ?_⟩
  by_cases c : i < xs.length
  · refine q_yes ((et_i (ev_v rfl) (ev_lenS lenR (ev_var rfl hx))).eq (decide_eq_true (by omega))) fun H1 e1 => ?_
    exact s_ret (ev_ixS (j := i) (ev_var rfl ((jSq K).mono e1 hx)) (ev_v rfl) rfl (gI_some c)) fun v H2 e2 p => q v H2 _ (e1.trans e2) trivial p
  · refine q_skip ((et_i (ev_v rfl) (ev_lenS lenR (ev_var rfl hx))).eq (decide_eq_false (by omega))) fun H1 e1 => ?_
    exact s_ret (ev_i (ev_sum (ev_uptoS (a := 1) (ev_var rfl ((jSq K).mono e1 hx)) ev_c rfl)) ev_c (by decide)) fun v H2 e2 p => q v H2 _ (e1.trans e2) trivial p
abbrev spLGen (K : PySem.W.Frag) : Sp := fun vs H Q _ => ∃ v xs i, vs = [v, .int (i : Nat)] ∧ (jSq K).r H v xs ∧ i < 3 ∧ ∀ g H', Ex H H' → H g = none → Gen g 3000 H' → Q (.ref g) H'
theorem c__law_generator (T : Tp K mg C) (D : Dfn K mg "_law_generator" s__law_generator) (c__law_cell : Cal P w K mg base 1 "_law_cell" p__law_cell (spLCell K)) : Cal P w K mg base 2 "_law_generator" p__law_generator (spLGen K) := by
  refine cal_mk D sc__law_generator (fun _ _ _ _ h => by obtain ⟨_, _, _, rfl, _⟩ := h; rfl) (fun _ _ _ _ _ _ us hl => match us, hl with | [_, _], _ => rfl) (fun f cdv A outer s H vs Q E hr h => ?_)
  obtain ⟨v, xs, i, rfl, hx, hi, q⟩ := h
  have hr' := hr
  refine ⟨_, (pss_cons (ps_set (i := 2) sc__law_generator.nd rfl (.inl rfl) (pe_cal c__law_cell hr' (by rfl) (pa_cons (pv 0) (pa_cons (pv 1) pa_nil))))
      (pss_one (ps_ret (pe_lst (pa_cons (pe_op op_mod (pe_callTy call_int1 (by rfl) T.int (by decide +kernel) (pa_cons (pe_callB (call_max2 rfl) (by rfl) T.max (by decide +kernel) (pa_cons (pe_op op_sub (pv 2) (pe_op op_pow pe_int pe_int)) (pa_cons pe_int pa_nil))) pa_nil)) (pe_op op_powW (pe_op op_pow pe_int pe_int) pe_int)) (pa_cons (pe_op op_mod (pe_callTy call_int1 (by rfl) T.int (by decide +kernel) (pa_cons (pv 2) pa_nil)) pe_int) (pa_cons (pe_op op_mul pe_int (pv 1)) pa_nil))))))), ?_⟩
  refine q_set (P := fun v _ => ∃ m : Int, v = .int m) (Ev.imp (ev_c2 (x := xs) (y := i) (ev_var rfl hx) (ev_v rfl) trivial) fun v H1 e1 ⟨r, _, hr⟩ => ⟨r, hr⟩) fun u H1 e1 p1 => ?_
  obtain ⟨sd, rfl⟩ := p1
  have hp1 : CPow 10 18 := ⟨by decide, by decide, by decide⟩
  have hp2 : CPow 10 60 := ⟨by decide, by decide, by decide⟩
  have hp3 : CPowW ((10 : Int) ^ (60 : Int).toNat) 10 := ⟨by decide, by decide +kernel⟩
  have hpos : (0 : Int) < ((10 : Int) ^ (60 : Int).toNat) ^ (10 : Int).toNat := by decide +kernel
  haveI s1 : Stab (fun (v : V) (_ : Hp) => ∃ a : Int, v = .int a ∧ 0 ≤ a) := ⟨fun _ h => h⟩
  haveI s2 : Stab (fun (v : V) (_ : Hp) => ∃ b : Int, v = .int b) := ⟨fun _ h => h⟩
  refine s_ret (P := fun v H2 => ∃ (g : Addr) (a b : Int), v = .ref g ∧ H g = none ∧ H2 g = some (.lst [.int a, .int b, .int (1000 * (i : Int))]) ∧ 0 ≤ a) (ev_lst (ea_3 (P1 := fun v _ => ∃ a : Int, v = .int a ∧ 0 ≤ a) (P2 := fun v _ => ∃ b : Int, v = .int b) (P3 := Eqv (.int (1000 * (i : Int)))) ?_ (Ev.imp (ev_i (ev_intI (fun n H Q q => .inl ⟨n, rfl, q⟩) (ev_v rfl)) ev_c (by decide)) fun v H2 e2 p => ⟨_, p⟩) (ev_i ev_c (ev_v rfl) (.inl (by decide)))) (fun vs H2 ⟨_, _, _, e, _⟩ => by rw [e]; show 3 ≤ 100000; decide) (fun vs H2 p e ⟨x, y, z, ev, p1, p2, p3⟩ hn => by
      subst ev
      obtain ⟨a, rfl, a0⟩ := p1
      obtain ⟨b, rfl⟩ := p2
      cases p3
      exact ⟨p, a, b, rfl, fresh0 (e1.trans e) hn, upd_same, a0⟩)) fun v H2 e2 p2 => ?_
  · refine Ev.imp (ev_i (ev_intI (fun n H Q q => .inl ⟨n, rfl, q⟩) (ev_b2 (u := .int (sd - (10 : Int) ^ (18 : Int).toNat)) (u2 := .int 0) (w := .int (if (0 : Int) > sd - (10 : Int) ^ (18 : Int).toNat then 0 else sd - (10 : Int) ^ (18 : Int).toNat)) (fun H Q q => ⟨_, _, rfl, q⟩) (ev_i0 (ev_v rfl) (ev_i ev_c ev_c hp1)) ev_c)) (ev_i (ev_i ev_c ev_c hp2) ev_c hp3) hpos) fun v H2 e2 p => ⟨_, p, (mod_lt _ hpos).1⟩
  · obtain ⟨g, a, b, rfl, hg0, hg, a0⟩ := p2
    exact q g H2 (e1.trans e2) hg0 ⟨a, b, 1000 * (i : Int), hg, a0, by omega, by omega⟩
end
end SL
end
section
set_option Elab.async false
set_option linter.all false
set_option maxRecDepth 100000
set_option maxHeartbeats 4000000
set_option autoImplicit false
/-! Comprehensions and appending where the generator's list changes. -/
namespace SL
open PySem PySem.Spec PyProof.Rows L2
/-- neither g nor p -/
def w2 (g p : Addr) (H : Hp) : Hp := wo g (wo p H)
theorem w2_ex {g p : Addr} {H : Hp} : Ex (w2 g p H) H := wo_ex.trans wo_ex
theorem w2_wo {g p : Addr} {H : Hp} : Ex (w2 g p H) (wo g H) := wo_mono wo_ex
theorem w2_mono {g p : Addr} {H H' : Hp} (e : ExG g H H') : Ex (w2 g p H) (w2 g p H') := fun a o h => by
  obtain ⟨h1, h2⟩ := wo_some h
  obtain ⟨h3, h4⟩ := wo_some h2
  show wo g (wo p H') a = some o
  rw [wo_at h1, wo_at h3]
  exact e.at h1 h4
theorem w2_upd {g p : Addr} {H : Hp} {o : HO} : Ex (w2 g p H) (w2 g p (upd H p o)) := wo_mono wo_upd
/-- new since H3, and not g -/
theorem w2_new {g p : Addr} {H3 H4 : Hp} (h : H3 p ≠ none) : Ex (wo g (newOf H3 H4)) (w2 g p H4) := wo_mono (wo_new h)
theorem newOf_wo {g : Addr} {H3 H4 : Hp} (h : H3 g ≠ none) : Ex (newOf H3 H4) (wo g (newOf H3 H4)) := fun a o ha => by
  have h1 := (newOf_some ha).1
  rw [wo_at (fun e => h (by rw [← e]; exact h1))]
  exact ha
theorem exg_upd {g p : Addr} {H H' : Hp} {o : HO} (e : ExG g H H') (h : H p = none) : ExG g H (upd H' p o) := fun a u ha => by
  obtain ⟨h1, h2⟩ := wo_some ha
  rw [wo_at h1]
  have h3 : a ≠ p := fun z => by rw [z, h] at h2; cases h2
  rw [upd_ne h3]
  exact e.at h1 h2
theorem exg_new {g p : Addr} {H : Hp} {o : HO} (h : H p = none) : ExG g H (upd H p o) := exg_upd ExG.refl h
theorem Gen.upd {g p : Addr} {m : Int} {H : Hp} {o : HO} (h : Gen g m H) (hp : p ≠ g) : Gen g m (upd H p o) := by
  obtain ⟨a, b, c, h1, h2⟩ := h
  exact ⟨a, b, c, by rw [upd_ne (Ne.symm hp)]; exact h1, h2⟩
theorem exg_fresh {g p : Addr} {H H' : Hp} (e : ExG g H H') (hg : H g ≠ none) (hp : H' p = none) (hpg : p ≠ g) : H p = none := by
  cases h : H p with
  | none => rfl
  | some o => rw [e.at hpg h] at hp; cases hp
theorem sd_inj {a b : Bool} (h : (sdS a == sdS b) = true) : a = b := by
  cases a <;> cases b <;> first | rfl | exact absurd h (by decide +kernel)
theorem sd_refl (a : Bool) : (sdS a == sdS a) = true := by cases a <;> decide +kernel
def encD : Enc jD where
  enc := fun d => .tuple [.int d.seam, .str (sdS d.up), .int d.step]
  d := 1
  dp := fun {K H v x} h => by
    obtain ⟨a, rfl, ha⟩ := h
    exact .tup (.inl (.inl ha)) (.cons (.int _) (.cons (.str _) (.cons (.int _) .nil)))
  lay := fun x => by
    simp only [PyData.canLay0, PyData.canLayAll0, Bool.true_and, Bool.and_true]
    cases x.up <;> decide +kernel
  dep := fun x => by simp only [PyData.depth, PyData.depthAll]; decide
  eq := fun x y => by
    simp only [PyData.eqv, PyData.eqvAll, Bool.and_true, Bool.and_eq_true]
    refine ⟨fun ⟨h1, h2, h3⟩ => ?_, fun h => ?_⟩
    · obtain ⟨a, b, c⟩ := x
      obtain ⟨a', b', c'⟩ := y
      have e1 : a = a' := Int.ofNat.inj (eq_of_beq h1)
      have e2 : b = b' := sd_inj h2
      have e3 : c = c' := Int.ofNat.inj (eq_of_beq h3)
      rw [e1, e2, e3]
    · subst h
      exact ⟨beq_self_eq_true _, sd_refl _, beq_self_eq_true _⟩
section
variable {K : PySem.W.Frag} {X : Cx} {σ : L2.St} {H H' H0 : Hp} {ta tb tc td te tl : TE} {tt tu : TT} {x y z v : V} {P P' P1 P2 P3 : V → Hp → Prop} {D : Ends} {ts tw tz : TS} {i j : Nat} {g : Addr} {α β : Type} {R : RP α} {S : RP β} {vs : List Nat}
/-- [e for x in range(n)], e drawn -/
theorem ew_lcR {p : β → Prop} {N : Nat} (pn : Nat → Prop) {m : Int} (c : Int) (h : EvW g ta σ H (fun v H1 => ∃ n : Nat, pn n ∧ n ≤ N ∧ v = .int n ∧ Gen g m H1)) (hN : N ≤ 40000) (hg : H g ≠ none) (hw : ∀ x, wipe ((wipe σ vs).set j (some x)) vs = wipe σ vs)
    (he : ∀ (i : Nat) (H3 : Hp), ExG g H H3 → i < N → Gen g (m + c * i) H3 → EvW g te ((wipe σ vs).set j (some (.int (i : Int)))) H3 (fun v H4 => Gen g (m + c * (i + 1 : Nat)) H4 ∧ ∃ x, p x ∧ S.r (wo g (newOf H3 H4)) v x)) :
    EvW g (tLc (iRng1 (tCons ta tNil)) (gName j) tYes te vs) σ H (fun v H4 => ∃ (n : Nat) (xs : List β) (a : Addr) (ws : List V), pn n ∧ n ≤ N ∧ xs.length = n ∧ (∀ x, x ∈ xs → p x) ∧ Gen g (m + c * n) H4 ∧ v = .ref a ∧ H a = none ∧ H4 a = some (.lst ws) ∧ Paired (S.r (w2 g a H4)) ws xs) := fun Q q => h _ fun v H1 e1 ⟨n, hpn, hn, ev, hG⟩ => by
  subst ev
  refine ⟨(n : Int), rfl, by omega, by omega, fun Dl hD => ?_⟩
  have hDg : Dl ≠ g := fun e => hG.ne (by rw [← e]; exact hD)
  have hD0 := exg_fresh e1 hg hD hDg
  refine lc_range (lo := 0) (n := (n : Int).toNat) (fun i H' => ExG g H H' ∧ Gen g (m + c * i) H' ∧ ∃ (xs : List β) (ws : List V), xs.length = i ∧ (∀ x, x ∈ xs → p x) ∧ H' Dl = some (.lst ws) ∧ Paired (S.r (w2 g Dl H')) ws xs) ⟨e1.trans (exg_new hD), by simpa using hG.upd hDg, [], [], rfl, (fun _ h => nomatch h), upd_same, .nil⟩ (fun i H' hi pv => ?_) (fun H' pv => ?_)
  · obtain ⟨ee, hG', xs, ws, hl, hp, hDl, hpw⟩ := pv
    have hin : i < n := by omega
    rw [show (0 : Int) + (i : Int) = (i : Int) by omega]
    refine ⟨hw _, ?_⟩
    refine he i H' ee (by omega) hG' _ fun v H4 e4 ⟨hG4, x, px, hx⟩ => ?_
    have hne : H' Dl ≠ none := by rw [hDl]; exact fun z => nomatch z
    have hlw := paired_len hpw
    refine ⟨ws, e4.at hDg hDl, Evl.sz_lt (by omega), exg_upd (ee.trans e4) hD0, hG4.upd hDg, xs ++ [x], ws ++ [v], by rw [List.length_append, hl]; rfl, fun y hy => ?_, upd_same, ?_⟩
    · rcases List.mem_append.mp hy with z | z
      · exact hp y z
      · rw [List.mem_singleton.mp z]; exact px
    · exact paired_snoc (paired_mono (fun _ _ z => S.mono ((w2_mono e4).trans w2_upd) z) hpw) (S.mono ((w2_new hne).trans w2_upd) hx)
  · obtain ⟨ee, hG', xs, ws, hl, hp, hDl, hpw⟩ := pv
    rw [show (n : Int).toNat = n by omega] at hl hG'
    exact q _ H' ee ⟨n, xs, Dl, ws, hpn, hn, hl, hp, hG', rfl, hD0, hDl, hpw⟩
/-- l.append(e), e drawn -/
theorem sw_app {l : Addr} {xs : List V} (hl : H l = some (.lst xs)) (hlg : l ≠ g) (ha : Ev ta σ H (Eqv (.ref l))) (h : ∀ H1, Ex H H1 → EvW g te σ H1 P) (hz : xs.length < 100000) (k : ∀ v H1, ExG g H H1 → P v H1 → D.nx σ (upd H1 l (.lst (xs ++ [v])))) :
    tDrop (tBM K "list" rAppend ta (tCons te tNil)) D σ H := ha H (Evl.Ex.refl H) _ fun o H1 e1 p1 => by
  cases p1
  exact ⟨Or.inl ⟨rfl, xs, .inl (.inl (e1 l _ hl))⟩, h H1 e1 _ fun v H2 e2 p => ⟨l, xs, v, rfl, rfl, e2.at hlg (e1 l _ hl), Evl.sz_lt hz, k v H2 ((Ex.g e1).trans e2) p⟩⟩
theorem qw_app {l : Addr} {xs : List V} (hl : H l = some (.lst xs)) (hlg : l ≠ g) (ha : Ev ta σ H (Eqv (.ref l))) (h : ∀ H1, Ex H H1 → EvW g te σ H1 P) (hz : xs.length < 100000) (k : ∀ v H1, ExG g H H1 → P v H1 → tz D σ (upd H1 l (.lst (xs ++ [v])))) :
    tSeq (tDrop (tBM K "list" rAppend ta (tCons te tNil))) tz D σ H := sw_app (D := { D with nx := tz D }) hl hlg ha h hz k
end
end SL
end
section
set_option Elab.async false
set_option linter.all false
set_option maxRecDepth 100000
set_option maxHeartbeats 4000000
set_option autoImplicit false
namespace SL
open PySem PySem.Spec PyProof.Rows L2
section
variable {P : Program} {w : World} {K : PySem.W.Frag} {mg : Str → Option Value} {base : Heap} {C : Addr}

/-! ### drawn kinds, orders, standings, walks -/
section
variable {σ : L2.St} {H H' : Hp} {ta tb te : TE} {g : Addr} {m : Int} {n : Nat} {E : XK}
theorem ew_rnd (ha : Ev ta σ H (Eqv (.ref g))) (hb : Ev tb σ H (Eqv (.int n))) (hn : 0 < n) (hn2 : n < 1000) (hm : m ≤ 1000000000) (hg : Gen g m H) : EvW g (tCall spRnd [] E (tCons ta (tCons tb tNil))) σ H (fun v H1 => ∃ r : Nat, r < n ∧ v = .int r ∧ Gen g (m + 1) H1) := fun Q q =>
  ha H (Evl.Ex.refl H) _ fun v H1 e1 p1 => hb H1 e1 _ fun w H2 e2 p2 => by
    cases p1; cases p2
    exact ⟨g, n, m, rfl, hn, hn2, hm, hg.mono (e1.trans e2), fun r H' hr e h => q _ H' ((Ex.g (e1.trans e2)).trans e) ⟨r, hr, rfl, h⟩⟩
/-- c + a number drawn -/
theorem ew_add {c : Int} {f : Int → Int → V} (hb : EvW g tb σ H (fun v H1 => ∃ r : Nat, r < n ∧ v = .int r ∧ Gen g m H1)) : EvW g (tOp (rI0 f) (tC (.int c)) tb) σ H (fun v H1 => ∃ r : Nat, r < n ∧ v = f c r ∧ Gen g m H1) := fun Q q =>
  hb _ fun v H1 e1 ⟨r, hr, ev, h⟩ => by
    subst ev
    exact ⟨_, _, rfl, rfl, q _ H1 e1 ⟨r, hr, rfl, h⟩⟩
end
def nmOf : Nat → CX.Nm
  | 0 => .plain
  | 1 => .mirror
  | _ => .ring
theorem nm_at {r : Nat} (h : r < 3) : ([V.str "plain", .str "mirror", .str "ring"] : List V)[r]? = some (.str (nmS (nmOf r))) := by
  match r, h with
  | 0, _ => rfl
  | 1, _ => rfl
  | 2, _ => rfl
abbrev spLKind : Sp := fun vs H Q _ => ∃ (g : Addr) (m : Int), vs = [.ref g, .bl true] ∧ m ≤ 100000000 ∧ Gen g m H ∧ ∀ v H' k, CX.Kd.good k → ExG g H H' → Gen g (m + 2) H' → jT.r (wo g H') v k → Q v H'
theorem c__law_kind (T : Tp K mg C) (D : Dfn K mg "_law_kind" s__law_kind) (c__law_random : Cal P w K mg base 2 "_law_random" p__law_random spRnd) : Cal P w K mg base 3 "_law_kind" p__law_kind spLKind := by
  refine cal_mk D sc__law_kind (fun _ _ _ _ h => by obtain ⟨_, _, rfl, _⟩ := h; rfl) (fun _ _ _ _ _ _ us hl => match us, hl with | [_, _], _ => rfl) (fun f cdv A outer s H vs Q E hr h => ?_)
  obtain ⟨g, m, rfl, hm, hg, q⟩ := h
  have hr' := hr
  refine ⟨_, (pss_cons (ps_set (i := 2) sc__law_kind.nd rfl (.inl rfl) (pe_ix ix_list (pe_lst (pa_cons pe_str (pa_cons pe_str (pa_cons pe_str pa_nil)))) (pe_cal c__law_random hr' (by rfl) (pa_cons (pv 0) (pa_cons pe_int pa_nil))) (fun _ _ => rfl)))
      (pss_cons (ps_if (pt_cmpR op_eq (pv 2) pe_str (nomark _)) (pss_one (ps_ret (pe_tup (pa_cons pe_str (pa_cons (pe_op op_add pe_int (pe_cal c__law_random hr' (by rfl) (pa_cons (pv 0) (pa_cons (pe_ifExp (pt_val (pv 1)) pe_int pe_int) pa_nil)))) pa_nil))))) pss_nil)
      (pss_one (ps_ret (pe_tup (pa_cons (pv 2) (pa_cons (pe_op op_add pe_int (pe_cal c__law_random hr' (by rfl) (pa_cons (pv 0) (pa_cons (pe_ifExp (pt_val (pv 1)) (pe_ifExp (pt_cmpR op_eq (pv 2) pe_str (nomark _)) pe_int pe_int) (pe_ifExp (pt_cmpR op_eq (pv 2) pe_str (nomark _)) pe_int pe_int)) pa_nil)))) pa_nil))))))), ?_⟩
  refine qw_set (g := g) (P := fun v H2 => ∃ nm, v = .str (nmS nm) ∧ Gen g (m + 1) H2) (fun Q q => ?_) fun v H1 e1 p1 => ?_
  · refine ⟨Evl.sz_of (show 3 ≤ 100000 by decide), fun p hp => ?_⟩
    have hpg : p ≠ g := fun e => hg.ne (by rw [← e]; exact hp)
    refine ew_rnd (g := g) (m := m) (n := 3) (ev_v rfl) ev_c (by decide) (by decide) (by omega) (hg.upd hpg) _ fun v H2 e2 ⟨r, hr, ev, h⟩ => ?_
    subst ev
    exact ⟨p, _, _, _, rfl, rfl, .inl (.inl (e2.at hpg upd_same)), atI_of rfl (nm_at hr), q _ H2 ((exg_new hp).trans e2) ⟨_, rfl, h⟩⟩
  · obtain ⟨nm, rfl, hg1⟩ := p1
    have fin : ∀ (te : TE) (n lo : Nat) (σ : L2.St) (H2 : Hp) (ta : TE) (k : Nat → CX.Kd), Ex H1 H2 → Ev ta σ H2 (Eqv (.str (nmS nm))) → (∀ H3, Ex H2 H3 → EvW g te σ H3 (fun v H1 => ∃ r : Nat, r < n ∧ v = .int ((lo : Int) + (r : Int)) ∧ Gen g (m + 2) H1)) → (∀ r, r < n → (k r).good ∧ (k r).nm = nm ∧ (k r).n = lo + r) →
        tRet (tTup (tCons ta (tCons te tNil))) { nx := fun x H' => Q V.non H', rt := Q } σ H2 := fun te n lo σ H2 ta k e2 ha hb hk => by
      refine ha H2 (Evl.Ex.refl _) _ fun v H3 e3 p3 => ?_
      cases p3
      refine hb H3 e3 _ fun v H4 e4 ⟨r, hr, ev, h⟩ => ?_
      subst ev
      obtain ⟨k1, k2, k3⟩ := hk r hr
      refine ⟨Evl.sz_of (show 2 ≤ 100000 by decide), fun p hp => ?_⟩
      have hpg : p ≠ g := fun e => h.ne (by rw [← e]; exact hp)
      have ee : ExG g H H4 := ((e1.trans (Ex.g (e2.trans e3))).trans e4)
      refine q _ _ (k r) k1 (ee.trans (exg_new hp)) (h.upd hpg) ⟨p, rfl, ?_⟩
      rw [wo_at hpg, upd_same, k2, k3]
      rfl
    refine q_if (b := decide (nm = .ring)) ((et_test (ev_eq (ev_v rfl) ev_c rfl)).eq (nm_ring nm)) (fun hb H2 e2 => ?_) (fun hb H2 e2 => ?_)
    · have hnm := of_decide_eq_true hb
      subst hnm
      refine fin _ 4 2 _ H2 _ (fun r => ⟨.ring, 2 + r⟩) e2 ev_c (fun H3 e3 => ?_) (fun r hr => ⟨⟨by show 2 ≤ 2 + r; omega, by show 2 + r ≤ 5; omega⟩, rfl, rfl⟩)
      have h := ew_add (g := g) (c := 2) (f := fun i j => .int (i + j)) (σ := [some (.ref g), some (.bl true), some (.str (nmS .ring))]) (H := H3) (ew_rnd (E := E0) (m := m + 1) (n := 4) (ta := tVar 0) (tb := tIf (tB (tVar 1)) (tC (.int 4)) (tC (.int 2))) (ev_v rfl) (ev_yes (et_B (ev_v rfl)) ev_c) (by decide) (by decide) (by omega) (hg1.mono (e2.trans e3)))
      rw [show m + 1 + 1 = m + 2 by omega] at h
      exact h
    · have hnr : nm ≠ .ring := of_decide_eq_false hb
      by_cases hp : nm = .plain
      · subst hp
        refine fin _ 7 1 _ H2 _ (fun r => ⟨.plain, 1 + r⟩) e2 (ev_v rfl) (fun H3 e3 => ?_) (fun r hr => ⟨⟨by show 1 ≤ 1 + r; omega, by show 1 + r ≤ 7; omega⟩, rfl, rfl⟩)
        have h := ew_add (g := g) (c := 1) (f := fun i j => .int (i + j)) (σ := [some (.ref g), some (.bl true), some (.str (nmS .plain))]) (H := H3) (ew_rnd (E := E0) (m := m + 1) (n := 7) (ta := tVar 0) (tb := tIf (tB (tVar 1)) (tIf (tTest (tOp rEq (tVar 2) (tC (.str "plain")))) (tC (.int 7)) (tC (.int 5))) (tIf (tTest (tOp rEq (tVar 2) (tC (.str "plain")))) (tC (.int 4)) (tC (.int 3)))) (ev_v rfl) (ev_yes (et_B (ev_v rfl)) (ev_yes ((et_test (ev_eq (ev_v rfl) ev_c rfl)).eq (nm_plain .plain)) ev_c)) (by decide) (by decide) (by omega) (hg1.mono (e2.trans e3)))
        rw [show m + 1 + 1 = m + 2 by omega] at h
        exact h
      · have hmr : nm = .mirror := by cases nm <;> first | rfl | exact absurd rfl hp | exact absurd rfl hnr
        subst hmr
        refine fin _ 5 1 _ H2 _ (fun r => ⟨.mirror, 1 + r⟩) e2 (ev_v rfl) (fun H3 e3 => ?_) (fun r hr => ⟨⟨by show 1 ≤ 1 + r; omega, by show 1 + r ≤ 5; omega⟩, rfl, rfl⟩)
        have h := ew_add (g := g) (c := 1) (f := fun i j => .int (i + j)) (σ := [some (.ref g), some (.bl true), some (.str (nmS .mirror))]) (H := H3) (ew_rnd (E := E0) (m := m + 1) (n := 5) (ta := tVar 0) (tb := tIf (tB (tVar 1)) (tIf (tTest (tOp rEq (tVar 2) (tC (.str "plain")))) (tC (.int 7)) (tC (.int 5))) (tIf (tTest (tOp rEq (tVar 2) (tC (.str "plain")))) (tC (.int 4)) (tC (.int 3)))) (ev_v rfl) (ev_yes (et_B (ev_v rfl)) (ev_no ((et_test (ev_eq (ev_v rfl) ev_c rfl)).eq (nm_plain .mirror)) ev_c)) (by decide) (by decide) (by omega) (hg1.mono (e2.trans e3)))
        rw [show m + 1 + 1 = m + 2 by omega] at h
        exact h
theorem newg {g : Addr} {H H4 H5 : Hp} (e : ExG g H H4) (hg : H4 g ≠ none) : Ex (newOf H4 H5) (wo g (newOf H H5)) := fun a o h => by
  obtain ⟨h1, h2⟩ := newOf_some h
  have hag : a ≠ g := fun z => hg (by rw [← z]; exact h1)
  have h3 : H a = none := by
    cases h4 : H a with
    | none => rfl
    | some o' => rw [e.at hag h4] at h1; cases h1
  rw [wo_at hag, newOf_at h3]
  exact h2
theorem cr_made {k : CX.Kd} (hg : k.good) {r : List Nat} (h : ∀ s, s ∈ r → s < k.steps) : CX.Okk k (r.foldl (CX.byK k) k.start) ∧ CX.crK k (r.foldl (CX.byK k) k.start) ≤ r.length := by
  have h1 := CX.made_ok (S := CX.sysK k hg) (CX.Sys.ok_e _) h
  have h2 := CX.made_len (S := CX.sysK k hg) (CX.Sys.ok_e _) h
  rw [CX.Sys.len_e] at h2
  refine ⟨h1, ?_⟩
  have h3 : CX.crK k (r.foldl (CX.byK k) k.start) ≤ 0 + r.length := h2
  omega
abbrev spLOrder : Sp := fun vs H Q _ => ∃ (g : Addr) (v : V) (k : CX.Kd) (m : Int), vs = [.ref g, v, .int 4] ∧ jT.r (wo g H) v k ∧ k.good ∧ m ≤ 100000000 ∧ Gen g m H ∧ ∀ u H' o, CX.Okk k o → CX.crK k o ≤ 4 → ExG g H H' → Gen g (m + 6) H' → jLI.r (wo g (newOf H H')) u o → Q u H'
theorem c__law_order (T : Tp K mg C) (D : Dfn K mg "_law_order" s__law_order) (c__law_random : Cal P w K mg base 2 "_law_random" p__law_random spRnd) (c__law_steps : Cal P w K mg base 1 "_law_steps" p__law_steps spLSteps) (c__law_start : Cal P w K mg base 1 "_law_start" p__law_start spLStart) (c__law_made : Cal P w K mg base 2 "_law_made" p__law_made spLMade) : Cal P w K mg base 3 "_law_order" p__law_order spLOrder := by
  refine cal_mk D sc__law_order (fun _ _ _ _ h => by obtain ⟨_, _, _, _, rfl, _⟩ := h; rfl) (fun _ _ _ _ _ _ us hl => match us, hl with | [_, _, _], _ => rfl) (fun f cdv A outer s H vs Q E hr h => ?_)
  obtain ⟨g, v, k, m, rfl, hk, hgd, hm, hg, q⟩ := h
  refine ⟨_, (pss_cons (ps_set (i := 3) sc__law_order.nd rfl (.inr rfl) (pe_cal c__law_steps (hr.mono (by decide)) (by rfl) (pa_cons (pv 1) pa_nil)))
      (pss_cons (ps_setLc (i := 4) (own := [("_law_turn", 5)]) (by rfl) sc__law_order.nd rfl rfl (sw_true rfl rfl rfl (by decide +kernel)) (pi_range1 rfl T.range (pa_cons (pe_op op_mul (pe_cal c__law_random hr (by rfl) (pa_cons (pv 0) (pa_cons (pe_op op_add (pv 2) pe_int) pa_nil))) (pe_callTy call_int1 (by rfl) T.int (by decide +kernel) (pa_cons (pe_cmpR (op_neD hr.units) (pv 3) (pe_lst pa_nil) (nomark _)) pa_nil))) pa_nil)) (blkOk_by (own := [("_law_turn", 5)]) (N := N__law_order) (sc := defScope s__law_order) (by decide +kernel)) (fun _ _ _ _ _ => (pg_name (i := 5) sc__law_order.nd rfl (.inl rfl))) (fun _ _ _ _ _ => pts_nil) (fun _ _ _ _ _ => (pe_ix (ix_listK (K := K) rfl) (pv 3) (pe_cal c__law_random hr (by rfl) (pa_cons (pv 0) (pa_cons (pe_callB (call_lenK (K := K) rfl) (by rfl) T.len (by decide +kernel) (pa_cons (pv 3) pa_nil)) pa_nil))) (fun _ _ => rfl))))
      (pss_one (ps_ret (pe_cal c__law_made hr (by rfl) (pa_cons (pv 1) (pa_cons (pe_cal c__law_start (hr.mono (by decide)) (by rfl) (pa_cons (pv 1) pa_nil)) (pa_cons (pv 4) pa_nil)))))))), ?_⟩
  refine q_set (P := Nu (jL jN) H (List.range k.steps)) (nu1 (ev_c1 (ev_var rfl (jT.mono wo_ex hk)) hgd)) fun w H1 e1 p1 => ?_
  have hw : (jL jN).r (wo g H1) w (List.range k.steps) := (jL jN).mono (wo_new hg.ne) p1
  have hg1 := hg.mono e1
  have hk1 := jT.mono (wo_mono e1) hk
  have h7 := steps7 hgd
  refine qw_set (g := g) (ew_lcR (S := jN) (p := fun s => s < k.steps) (N := if k.steps = 0 then 0 else 4) (m := m + 1) (fun _ => True) 1 (fun Q q => ?_) (by split <;> omega) hg1.ne (fun _ => rfl) (fun i H3 e3 hi hg3 Q q => ?_)) fun u H2 e2 p2 => ?_
  · refine ew_rnd (g := g) (m := m) (n := 5) (ev_v rfl) (Ev.eq (v := .int (4 + 1)) (ev_i0 (ev_v rfl) ev_c) rfl) (by decide) (by decide) (by omega) hg1 _ fun v H2 e2 ⟨r, hr, ev, h⟩ => ?_
    subst ev
    have hw2 := (jL jN).mono e2 hw
    refine (ev_intB (b := !decide (List.range k.steps = [])) (fun b H Q q => .inr ⟨b, rfl, q⟩) (ev_neD (encL encN) (x := List.range k.steps) (y := []) (ev_var rfl ((jL jN).mono wo_ex hw2)) (ev_nil (R := jN)).is)) H2 (Evl.Ex.refl _) _ fun v H3 e3 p3 => ?_
    cases p3
    refine ⟨_, _, rfl, rfl, .inl ⟨by omega, by omega⟩, q _ H3 (e2.trans (Ex.g e3)) ?_⟩
    by_cases c : k.steps = 0
    · refine ⟨0, trivial, Nat.zero_le _, ?_, h.mono e3⟩
      rw [c]
      simp
    · refine ⟨r, trivial, by rw [if_neg c]; omega, ?_, h.mono e3⟩
      have hne : ¬ List.range k.steps = [] := fun z => c (by rw [← List.length_range (n := k.steps), z]; rfl)
      rw [decide_eq_false hne]
      simp
  · have hk0 : 0 < k.steps := by
      by_cases c : k.steps = 0
      · rw [if_pos c] at hi; omega
      · omega
    have hi4 : i < 4 := by rw [if_neg (by omega)] at hi; exact hi
    have hw3 := (jL jN).mono wo_ex ((jL jN).mono e3 hw)
    obtain ⟨a, ws, ea, ha, hpw⟩ := id ((jL jN).mono e3 hw)
    refine ⟨w, rfl, ?_⟩
    refine ew_rnd (g := g) (m := m + 1 + 1 * i) (n := k.steps) (ev_v rfl) ((ev_lenL (fun p ys H Q h q => ⟨p, ys, rfl, .inl h, q⟩) (ev_var rfl hw3)).eq (congrArg V.int (by rw [List.length_range]))) hk0 (by omega) (by omega) hg3 _ fun v H4 e4 ⟨r, hr, ev, h⟩ => ?_
    subst ev ea
    obtain ⟨x, hx, rx⟩ := paired_get' hpw (x := r) (i := r) (by rw [List.getElem?_range hr])
    cases rx
    obtain ⟨hag, ha'⟩ := wo_some ha
    exact ⟨a, ws, _, _, rfl, rfl, .inl (.inl (e4.at hag ha')), atI_of rfl hx, q _ H4 e4 ⟨by rw [show m + 1 + 1 * ((i + 1 : Nat) : Int) = m + 1 + 1 * (i : Int) + 1 by omega]; exact h, r, hr, rfl⟩⟩
  · obtain ⟨n, xs, a, ws, _, hn, hl, hp, hg2, rfl, ha0, ha, hpw⟩ := p2
    have hn4 : n ≤ 4 := by split at hn <;> omega
    obtain ⟨ok, cr⟩ := cr_made hgd hp
    have hk2 := jT.mono wo_ex (jT.mono e2 hk1)
    have hx : (jL jN).r H2 (.ref a) xs := ⟨a, ws, rfl, ha, paired_mono (fun _ _ z => jN.mono w2_ex z) hpw⟩
    refine s_ret (nu1 (ev_c3 (x := k) (y := k.start) (z := xs) (ev_var rfl hk2) (isN (ev_c1 (ev_var rfl hk2) hgd)) (ev_var rfl hx) ⟨hgd, CX.start_len, hp⟩)) fun v H3 e3 p3 => ?_
    have e02 : ExG g H H2 := (Ex.g e1).trans e2
    exact q v H3 _ ok (by omega) (e02.trans (Ex.g e3)) ((hg2.mono e3).up (by omega)) (jLI.mono (newg e02 hg2.ne) p3)
abbrev spLStand : Sp := fun vs H Q _ => ∃ (g : Addr) (v : V) (k : CX.Kd) (m : Int) (n : Nat), vs = [.ref g, v, .int n, .int 4] ∧ n ≤ 5 ∧ jT.r (wo g H) v k ∧ k.good ∧ m ≤ 10000000 ∧ Gen g m H ∧ ∀ u H' xs, xs.length = n → (∀ x, x ∈ xs → CX.Okk k x ∧ CX.crK k x ≤ 4) → ExG g H H' → Gen g (m + 30) H' → jLL.r (wo g H') u xs → Q u H'
end
end SL
end
section
set_option Elab.async false
set_option linter.all false
set_option maxRecDepth 100000
set_option maxHeartbeats 4000000
set_option autoImplicit false
namespace SL
open PySem PySem.Spec PyProof.Rows L2
section
variable {P : Program} {w : World} {K : PySem.W.Frag} {mg : Str → Option Value} {base : Heap} {C : Addr}

theorem c__law_standing (T : Tp K mg C) (D : Dfn K mg "_law_standing" s__law_standing) (c__law_order : Cal P w K mg base 3 "_law_order" p__law_order spLOrder) : Cal P w K mg base 4 "_law_standing" p__law_standing spLStand := by
  refine cal_mk D sc__law_standing (fun _ _ _ _ h => by obtain ⟨_, _, _, _, _, rfl, _⟩ := h; rfl) (fun _ _ _ _ _ _ us hl => match us, hl with | [_, _, _, _], _ => rfl) (fun f cdv A outer s H vs Q E hr h => ?_)
  obtain ⟨g, v, k, m, n, rfl, hn, hk, hgd, hm, hg, q⟩ := h
  have hr' := hr
  refine ⟨_, (pss_one (ps_ret (pe_lc (own := [("_law_layer", 4)]) (by rfl) sc__law_standing.nd (pi_range1 rfl T.range (pa_cons (pv 2) pa_nil)) (blkOk_by (own := [("_law_layer", 4)]) (N := N__law_standing) (sc := defScope s__law_standing) (by decide +kernel)) (fun _ _ _ _ _ => (pg_name (i := 4) sc__law_standing.nd rfl (.inl rfl))) (fun _ _ _ _ _ => pts_nil) (fun _ _ _ _ _ => (pe_cal c__law_order hr' (by rfl) (pa_cons (pv 0) (pa_cons (pv 1) (pa_cons (pv 3) pa_nil)))))))), ?_⟩
  refine sw_ret (g := g) (ew_lcR (S := jLI) (p := fun x => CX.Okk k x ∧ CX.crK k x ≤ 4) (N := n) (m := m) (fun z => z = n) 6 (fun Q q => ⟨_, rfl, q _ H ExG.refl ⟨n, rfl, Nat.le_refl _, rfl, hg⟩⟩) (by omega) hg.ne (fun _ => rfl) (fun i H3 e3 hi hg3 Q q => ?_)) fun u H2 e2 p2 => ?_
  · have hk3 := jT.mono e3 hk
    refine ⟨_, rfl, _, rfl, _, rfl, ?_⟩
    show spLOrder ([V.ref g, v, V.int 4] ++ []) H3 Q E0
    exact ⟨g, v, k, m + 6 * i, rfl, hk3, hgd, by omega, hg3, fun u H' o ok cr e hg' hu => q u H' e ⟨by rw [show m + 6 * ((i + 1 : Nat) : Int) = m + 6 * (i : Int) + 6 by omega]; exact hg', o, ⟨ok, cr⟩, hu⟩⟩
  · obtain ⟨n', xs, a, ws, rfl, hn', hl, hp, hg2, rfl, ha0, ha, hpw⟩ := p2
    have hag : a ≠ g := fun e => hg.ne (by rw [← e]; exact ha0)
    exact q _ H2 xs hl hp e2 (hg2.up (by omega)) ⟨a, ws, rfl, by rw [wo_at hag]; exact ha, paired_mono (fun _ _ z => jLI.mono w2_wo z) hpw⟩
theorem bl_walk {k : CX.Kd} {cur : List (List Int)} {d : CX.Deed} (hg : k.good) (h : CX.StdK k cur) (hd : d ∈ CX.deedsK k cur) : CX.Fit k cur d ∧ CX.StdK k (CX.behK k cur d) ∧ (CX.behK k cur d).length = cur.length ∧ CX.wholeK k (CX.behK k cur d) = CX.wholeK k cur := by
  have hf := CX.deeds_fit hd
  have hdd := hf.dd hg
  exact ⟨hf, hdd.std h, hdd.length, hdd.whole h.all⟩
abbrev spLWalk : Sp := fun vs H Q _ => ∃ (g : Addr) (v w : V) (k : CX.Kd) (xs : List (List Int)) (n : Nat) (m : Int), vs = [.ref g, v, w, .int n] ∧ n ≤ 16 ∧ jT.r (wo g H) v k ∧ jLL.r (wo g H) w xs ∧ preX k xs ∧ m ≤ 10000000 ∧ Gen g m H ∧
  ∀ a H' w1 w2 ys, preX k ys → ys.length = xs.length → CX.wholeK k ys = CX.wholeK k xs → ExG g H H' → Gen g (m + 16) H' → H' a = some (.tup [w1, w2]) → jLL.r (wo g H') w1 ys → Q (.ref a) H'
theorem c__law_walked (T : Tp K mg C) (D : Dfn K mg "_law_walked" s__law_walked) (c__law_random : Cal P w K mg base 2 "_law_random" p__law_random spRnd) (c__law_deeds : Cal P w K mg base 6 "_law_deeds" p__law_deeds spLDeeds) (c__law_done : Cal P w K mg base 5 "_law_done" p__law_done spLDone) : Cal P w K mg base 7 "_law_walked" p__law_walked spLWalk := by
  refine cal_mk D sc__law_walked (fun _ _ _ _ h => by obtain ⟨_, _, _, _, _, _, _, rfl, _⟩ := h; rfl) (fun _ _ _ _ _ _ us hl => match us, hl with | [_, _, _, _], _ => rfl) (fun f cdv A outer s H vs Q E hr h => ?_)
  obtain ⟨g, v, w0, k, xs, n, m, rfl, hn, hk, hx, ⟨hgd, hs⟩, hm, hg, q⟩ := h
  have hlen := hs.len
  refine ⟨_, (pss_cons (ps_par (i := 4) (j := 5) (by rfl) sc__law_walked.nd rfl rfl (by decide) rfl rfl (pa_cons (pe_lc (own := [("_law_order_here", 6)]) (by rfl) sc__law_walked.nd (pi_list (pv 2)) (blkOk_by (own := [("_law_order_here", 6)]) (N := N__law_walked) (sc := defScope s__law_walked) (by decide +kernel)) (fun _ _ _ _ _ => (pg_name (i := 6) sc__law_walked.nd rfl (.inl rfl))) (fun _ _ _ _ _ => pts_nil) (fun _ _ _ _ _ => (pe_callTy (call_lisK (K := K) rfl) (by rfl) T.list (by decide +kernel) (pa_cons (pv 6) pa_nil)))) (pa_cons (pe_lst pa_nil) pa_nil)) (by rfl))
      (pss_cons (ps_for PassesOwn.never rfl (pi_range1 rfl T.range (pa_cons (pv 3) pa_nil)) (pg_name (i := 7) sc__law_walked.nd rfl (.inl rfl)) (pss_cons (ps_set (i := 8) sc__law_walked.nd rfl (.inl rfl) (pe_cal c__law_deeds hr (by rfl) (pa_cons (pv 1) (pa_cons (pv 4) pa_nil))))
      (pss_one (ps_if (pt_cmpR (op_neD hr.units) (pv 8) (pe_lst pa_nil) (nomark _)) (pss_cons (ps_expr (pe_bm PySem.F.plainAttrs_list PySem.F.slot_list_append PySem.F.type_list_append mt_append (pv 5) (pa_cons (pe_ix ix_list (pv 8) (pe_cal c__law_random (hr.mono (by decide)) (by rfl) (pa_cons (pv 0) (pa_cons (pe_callB call_len_seq (by rfl) T.len (by decide +kernel) (pa_cons (pv 8) pa_nil)) pa_nil))) (fun _ _ => rfl)) pa_nil)))
      (pss_one (ps_set (i := 4) sc__law_walked.nd rfl (.inl rfl) (pe_cal c__law_done (hr.mono (by decide)) (by rfl) (pa_cons (pv 1) (pa_cons (pv 4) (pa_cons (pe_ix ix_list (pv 5) (pe_op op_sub (pe_callB call_len_seq (by rfl) T.len (by decide +kernel) (pa_cons (pv 5) pa_nil)) pe_int) (fun _ _ => rfl)) pa_nil))))))) pss_nil))))
      (pss_one (ps_ret (pe_tup (pa_cons (pv 4) (pa_cons (pv 5) pa_nil))))))), ?_⟩
  refine q_par (P1 := Nu jLL H xs) (P2 := fun H1 => Nu (jL jD) H1 []) (ev_copy (ev_var rfl (jLL.mono wo_ex hx)) (by omega) (fun _ => rfl) (fun _ => rfl)) (fun v H1 e1 p1 => ev_nil) fun u v2 H1 H2 e1 p1 e2 p2 => ?_
  obtain ⟨p, ws0, rfl, hp1, hp2⟩ := p2
  cases hp2
  obtain ⟨hp0', hpl⟩ := newOf_some hp1
  have hp0 := fresh0 e1 hp0'
  have hpg : p ≠ g := fun e => hg.ne (by rw [← e]; exact hp0)
  have e12 := e1.trans e2
  have hu0 : jLL.r (w2 g p H2) u xs := jLL.mono (fun a o ha => by
    obtain ⟨h1, h2⟩ := newOf_some ha
    have h3 : a ≠ p := fun z => by rw [z, hp0'] at h2; cases h2
    have h4 : a ≠ g := fun z => hg.ne (by rw [← z]; exact h1)
    show wo g (wo p H2) a = some o
    rw [wo_at h4, wo_at h3]
    exact e2 _ _ h2) p1
  refine q_forR (n := n) (ev_v rfl) (by omega) (fun i σ' H' => ∃ (u : V) (ws : List V) (cur : List (List Int)) (ds : List CX.Deed) (a b c : Option V), σ' = [some (.ref g), some v, some w0, some (.int (n : Int)), some u, some (.ref p), a, b, c] ∧ ExG g H H' ∧ Gen g (m + i) H' ∧ H' p = some (.lst ws) ∧ Paired (jD.r (w2 g p H')) ws ds ∧ ds.length ≤ i ∧ jLL.r (w2 g p H') u cur ∧ CX.StdK k cur ∧ cur.length = xs.length ∧ CX.wholeK k cur = CX.wholeK k xs)
    (fun H3 e3 => ⟨u, [], xs, [], none, none, none, rfl, Ex.g (e12.trans e3), by simpa using hg.mono (e12.trans e3), e3 _ _ hpl, .nil, Nat.le_refl _, jLL.mono (w2_mono (Ex.g e3)) hu0, hs, rfl, rfl⟩) (fun i σ' H' hi pv => ?_) (fun σ' H' pv => ?_)
  · obtain ⟨u, ws, cur, ds, a, b, c, rfl, ee, hg', hpa, hds, hdl, hu, hst, hcl, hcw⟩ := pv
    have hk' := jT.mono wo_ex (jT.mono ee hk)
    refine q_set (P := Nu (jL jD) H' (CX.deedsK k cur)) (nu1 (ev_c2 (ev_var rfl hk') (ev_var rfl (jLL.mono w2_ex hu)) ⟨hgd, hst⟩)) fun v3 H3 e3 p3 => ?_
    have hpa3 := e3 _ _ hpa
    have hg3 := hg'.mono e3
    have ee3 := ee.trans (Ex.g e3)
    have hu3 := jLL.mono (w2_mono (Ex.g e3)) hu
    have hds3 := paired_mono (fun _ _ z => jD.mono (w2_mono (Ex.g e3)) z) hds
    have hlw := paired_len hds
    cases hc : CX.deedsK k cur with
    | nil =>
      rw [hc] at p3
      refine s_skip ((et_neN encD (ev_var rfl p3.is)).eq rfl) fun H4 e4 => ?_
      exact ⟨u, ws, cur, ds, _, _, _, rfl, ee3.trans (Ex.g e4), (hg3.mono e4).up (by omega), e4 _ _ hpa3, paired_mono (fun _ _ z => jD.mono (w2_mono (Ex.g e4)) z) hds3, by omega, jLL.mono (w2_mono (Ex.g e4)) hu3, hst, hcl, hcw⟩
    | cons d0 rest =>
      refine s_yes ((et_neN encD (ev_var rfl p3.is)).eq (by rw [hc]; rfl)) fun H4 e4 => ?_
      have hg4 := hg3.mono e4
      have ee4 := ee3.trans (Ex.g e4)
      have hpa4 := e4 _ _ hpa3
      have hdl' := deeds_le (xs := cur) hgd hst.len
      have hpos : 0 < (CX.deedsK k cur).length := by rw [hc]; exact Nat.zero_lt_succ _
      have hsome : (jL jD).r (w2 g p H4) v3 (CX.deedsK k cur) := (jL jD).mono (fun a o ha => by
        obtain ⟨h1, h2⟩ := newOf_some ha
        have h3 : a ≠ p := fun z => by rw [z, hpa] at h1; cases h1
        have h4 : a ≠ g := fun z => hg'.ne (by rw [← z]; exact h1)
        show wo g (wo p H4) a = some o
        rw [wo_at h4, wo_at h3]
        exact e4 _ _ h2) p3
      refine qw_app (g := g) (P := fun v H5 => Gen g (m + (i : Int) + 1) H5 ∧ ∃ d, d ∈ CX.deedsK k cur ∧ jD.r (w2 g p H5) v d) (l := p) (xs := ws) hpa4 hpg (ev_v rfl) (fun H5 e5 Q q => ?_) (by omega) fun dv H5 e5 p5 => ?_
      · have hs5 := (jL jD).mono (w2_mono (Ex.g e5)) hsome
        obtain ⟨a, us, ea, ha, hpw⟩ := id hs5
        refine ⟨v3, rfl, ?_⟩
        refine ew_rnd (g := g) (m := m + i) (n := (CX.deedsK k cur).length) (ev_v rfl) (ev_lenL lenR (ev_var rfl ((jL jD).mono w2_ex hs5))) hpos (by omega) (by omega) (hg4.mono e5) _ fun v H6 e6 ⟨r, hr, ev, h⟩ => ?_
        subst ev ea
        obtain ⟨x, hx, rx⟩ := paired_get' hpw (x := (CX.deedsK k cur)[r]) (i := r) (List.getElem?_eq_getElem hr)
        obtain ⟨hag, ha'⟩ := wo_some ha
        exact ⟨a, us, _, _, rfl, rfl, .inl (.inl (e6.at hag (wo_some ha').2)), atI_of rfl hx, q _ H6 e6 ⟨h, _, List.getElem_mem hr, jD.mono (w2_mono e6) rx⟩⟩
      · obtain ⟨hg5, d, hd, rd⟩ := p5
        obtain ⟨hfit, hst2, hl2, hw2⟩ := bl_walk hgd hst hd
        have ee5 := exg_upd (o := .lst (ws ++ [dv])) (ee4.trans e5) hp0
        have hg6 := hg5.upd (o := .lst (ws ++ [dv])) hpg
        have hu6 : jLL.r (w2 g p (upd H5 p (.lst (ws ++ [dv])))) u cur := jLL.mono ((w2_mono ((Ex.g e4).trans e5)).trans w2_upd) hu3
        have hds6 : Paired (jD.r (w2 g p (upd H5 p (.lst (ws ++ [dv]))))) (ws ++ [dv]) (ds ++ [d]) := paired_snoc (paired_mono (fun _ _ z => jD.mono ((w2_mono ((Ex.g e4).trans e5)).trans w2_upd) z) hds3) (jD.mono w2_upd rd)
        have hpa6 : (upd H5 p (.lst (ws ++ [dv]))) p = some (.lst (ws ++ [dv])) := upd_same
        generalize upd H5 p (.lst (ws ++ [dv])) = H6 at ee5 hg6 hu6 hds6 hpa6 ⊢
        have hli : (jL jD).r H6 (.ref p) (ds ++ [d]) := ⟨p, _, rfl, hpa6, paired_mono (fun _ _ z => jD.mono w2_ex z) hds6⟩
        have hk6 := jT.mono wo_ex (jT.mono ee5 hk)
        refine s_set (P := Nu jLL H6 (CX.behK k cur d)) (nu1 (ev_c3 (x := k) (y := cur) (z := d) (ev_var rfl hk6) (ev_var rfl (jLL.mono w2_ex hu6)) (ev_ixL (R := jD) (xs := ds ++ [d]) (j := ds.length) (ev_var rfl hli) (ev_i0 (ev_lenL lenR (ev_var rfl hli)) ev_c) (by rw [List.length_append]; show ((ds.length + 1 : Nat) : Int) - 1 = _; omega) (by simp)) ⟨⟨hgd, hst⟩, hfit⟩)) fun w7 H7 e7 p7 => ?_
        refine ⟨w7, ws ++ [dv], CX.behK k cur d, ds ++ [d], _, _, _, rfl, ee5.trans (Ex.g e7), (hg6.mono e7).up (by omega), e7 _ _ hpa6, paired_mono (fun _ _ z => jD.mono (w2_mono (Ex.g e7)) z) hds6, by rw [List.length_append]; show ds.length + 1 ≤ _; omega, ?_, hst2, by rw [hl2]; exact hcl, by rw [hw2]; exact hcw⟩
        refine jLL.mono (fun a o ha => ?_) p7
        obtain ⟨h1, h2⟩ := newOf_some ha
        have h3 : a ≠ p := fun z => by rw [z, hpa6] at h1; cases h1
        have h4 : a ≠ g := fun z => hg6.ne (by rw [← z]; exact h1)
        show wo g (wo p H7) a = some o
        rw [wo_at h4, wo_at h3]
        exact h2
  · obtain ⟨u, ws, cur, ds, a, b, c, rfl, ee, hg', hpa, hds, hdl, hu, hst, hcl, hcw⟩ := pv
    refine s_ret (P := fun v H3 => ∃ a w1 w2, v = .ref a ∧ ExG g H' H3 ∧ Gen g (m + n) H3 ∧ H3 a = some (.tup [w1, w2]) ∧ jLL.r (wo g H3) w1 cur) (ev_tup (ea_2 (P1 := Eqv u) (P2 := Eqv (.ref p)) (ev_v rfl) (ev_v rfl)) (fun vs H1 ⟨v, w, e, _⟩ => by rw [e]; show 2 ≤ 100000; decide) fun vs H3 t e3 ⟨x, y, ev, p1, p2⟩ ht => by
      subst ev
      cases p1; cases p2
      have htg : t ≠ g := fun e => (hg'.mono e3).ne (by rw [← e]; exact ht)
      have e4 : ExG g H' (upd H3 t (.tup [u, .ref p])) := (Ex.g e3).trans (exg_new ht)
      exact ⟨t, u, .ref p, rfl, e4, (hg'.mono e3).upd htg, upd_same, jLL.mono (w2_wo.trans e4) hu⟩) fun v3 H3 e3 p3 => ?_
    obtain ⟨t, w1, w2', rfl, e4, hg3, ht, hw1⟩ := p3
    exact q t H3 w1 w2' cur ⟨hgd, hst⟩ hcl hcw (ee.trans e4) (hg3.up (by omega)) ht hw1
end
end SL
end
section
set_option Elab.async false
set_option linter.all false
set_option maxRecDepth 100000
set_option maxHeartbeats 4000000
set_option autoImplicit false
namespace SL
open PySem PySem.Spec PyProof.Rows L2
section
variable {P : Program} {w : World} {K : PySem.W.Frag} {mg : Str → Option Value} {base : Heap} {C : Addr}

/-! ### Kind(name, size) -/
theorem c_is_between_ev {σ : L2.St} {H : Hp} {ta : TE} {n : Int} (h : Ev ta σ H (Eqv (.int n))) : Ev (tIsN ta) σ H (Eqv (.bl false)) := fun H1 e1 Q q => h H1 e1 _ fun v H2 e2 p => by
  cases p
  exact q _ H2 e2 rfl
abbrev spBw : Sp := sp3 jI jI jI jB (fun n lo hi => lo ≤ n ∧ n ≤ hi) (fun n lo hi r => r = true)
theorem c_is_between (T : Tp K mg C) (D : Dfn K mg "is_between" s_is_between) (c_is_whole : Cal P w K mg base 1 "is_whole" p_is_whole (spWh C)) : Cal P w K mg base 2 "is_between" p_is_between spBw := by
  refine cal_mk D sc_is_between (fun _ _ _ _ h => len3 h) (fun _ _ _ _ _ _ us hl => match us, hl with | [_, _, _], _ => rfl) (fun f cdv A outer s H vs Q E hr h => ?_)
  obtain ⟨v1, v2, v3, n, lo, hi, rfl, h1, h2, h3, ⟨hlo, hhi⟩, q⟩ := h
  cases h1; cases h2; cases h3
  have hr' := hr
  refine ⟨_, (pss_one (ps_ret (pe_and (pe_cal c_is_whole hr' (by rfl) (pa_cons (pv 0) pa_nil)) (pe_and (pe_cmpR op_ge (pv 0) (pv 1) (nomark _)) (pe_one (pe_or (pe_cmp (pc_isN (pv 2)) rfl) (pe_one (pe_cmpR op_le (pv 0) (pv 2) (nomark _))))))))), ?_⟩
  refine s_ret (P := Eqv (.bl true)) ((ev_and (a := true) (b := true) (nuB (ev_c1 (x := n) (ev_v rfl) trivial)) fun _ => ev_and (a := true) (b := true) ((ev_i0 (ev_v rfl) (ev_v rfl)).eq (congrArg V.bl (decide_eq_true hlo))) fun _ => ev_or (a := false) (b := true) (c_is_between_ev (ev_v rfl)) fun _ => (ev_i0 (ev_v rfl) (ev_v rfl)).eq (congrArg V.bl (decide_eq_true hhi)))) fun v H1 e1 p => q v H1 true e1 rfl p
abbrev spCn : Sp := fun vs H Q _ => ∃ n lo hi : Int, vs = [.int n, .int lo, .int hi] ∧ lo ≤ n ∧ n ≤ hi ∧ ∀ H', Ex H H' → Q .non H'
theorem c_check_number (T : Tp K mg C) (D : Dfn K mg "check_number" s_check_number) (c_is_between : Cal P w K mg base 2 "is_between" p_is_between spBw) : Cal P w K mg base 3 "check_number" p_check_number spCn := by
  refine cal_mk D sc_check_number (fun _ _ _ _ h => by obtain ⟨_, _, _, rfl, _⟩ := h; rfl) (fun _ _ _ _ _ _ us hl => match us, hl with | [_, _, _], _ => rfl) (fun f cdv A outer s H vs Q E hr h => ?_)
  obtain ⟨n, lo, hi, rfl, hlo, hhi, q⟩ := h
  have hr' := hr
  refine ⟨_, (pss_one (ps_if (pt_not (pt_val (pe_cal c_is_between hr' (by rfl) (pa_cons (pv 0) (pa_cons (pv 1) (pa_cons (pv 2) pa_nil)))))) (pss_one ps_never) pss_nil)), ?_⟩
  exact s_skip (et_not (a := true) (et_B (nuB (ev_c3 (x := n) (y := lo) (z := hi) (ev_v rfl) (ev_v rfl) (ev_v rfl) ⟨hlo, hhi⟩)))) fun H2 e2 => q H2 e2
def loN : CX.Nm → Int
  | .plain => 1
  | .mirror => 1
  | .ring => 2
def hiN : CX.Nm → Int
  | .plain => 7
  | .mirror => 5
  | .ring => 5
theorem good_bnd {k : CX.Kd} (hg : k.good) : loN k.nm ≤ (k.n : Int) ∧ (k.n : Int) ≤ hiN k.nm := by
  obtain ⟨nm, n⟩ := k
  cases nm
  · have h : 1 ≤ n ∧ n ≤ 7 := hg
    exact ⟨by show (1 : Int) ≤ n; omega, by show (n : Int) ≤ 7; omega⟩
  · have h : 1 ≤ n ∧ n ≤ 5 := hg
    exact ⟨by show (1 : Int) ≤ n; omega, by show (n : Int) ≤ 5; omega⟩
  · have h : 2 ≤ n ∧ n ≤ 5 := hg
    exact ⟨by show (2 : Int) ≤ n; omega, by show (n : Int) ≤ 5; omega⟩
/-- BOUNDS, as the top leaves it -/
structure Bnd (K : PySem.W.Frag) (w : World) (mg : Str → Option Value) : Prop where
  ex : ∃ d es n, mg "BOUNDS" = some (.ref d) ∧ KDict K w d es n ∧ ∀ nm : CX.Nm, ∃ t, PySem.W.nsIn K d (nmS nm) = some (some (.ref t)) ∧ ∀ H, SqT K H t [.int (loN nm), .int (hiN nm)]
abbrev spInit (C : Addr) : Sp := fun vs H Q _ => ∃ x dx k, vs = [.ref x, .str (nmS k.nm), .int (k.n : Nat)] ∧ CX.Kd.good k ∧ H x = some (.ins C dx []) ∧ ∀ H', Ex (wo x H) (wo x H') → H' x = some (.ins C dx (kfl k)) → Q .non H'
/-- the class makes -/
structure Mkr (P : Program) (w : World) (K : PySem.W.Frag) (mg : Str → Option Value) (base : Heap) (C : Addr) (k : Nat) : Prop where
  ex : ∃ f fd, Mk K C f ∧ Binds K fd ["self", "name", "size"] [] ∧ FnOk P w K mg base CX0 k f fd ["self", "name", "size"] (spInit C)
theorem mkr_init {f : Addr} {fd : FuncData} (T : Tp K mg C) (B : Bnd K w mg) (M : Mk K C f) (F : FunD K "__init__" "Kind.__init__" (defArgs s_Kind___init__) (defBody s_Kind___init__) (defScope s_Kind___init__) [] [] f fd) (c_check_number : Cal P w K mg base 3 "check_number" p_check_number spCn) : Mkr P w K mg base C 4 := by
  refine ⟨f, fd, M, F.bindsN (fun _ _ _ _ _ _ us hl => match us, hl with | [_, _, _], _ => rfl), F.ok sc_Kind___init__ (fun _ _ _ _ h => by obtain ⟨_, _, _, rfl, _⟩ := h; rfl) fun cdv A outer s H vs Q E hr h => ?_⟩
  obtain ⟨x, dx, k, rfl, hg, hx, q⟩ := h
  obtain ⟨d, es, n, hB, hD, hb⟩ := B.ex
  obtain ⟨t, hns, htu⟩ := hb k.nm
  obtain ⟨hlo, hhi⟩ := good_bnd hg
  have hr' := hr
  suffices hs : ∃ t, PSs (cxOf CX0 P w K mg base N_Kind___init__ "Kind.__init__" (defScope s_Kind___init__) f cdv A outer s H E).nox (defBody s_Kind___init__) t ∧ t { nx := fun _ H' => Q .non H', rt := Q } (L2.start N_Kind___init__ [.ref x, .str (nmS k.nm), .int (k.n : Int)]) H by
    obtain ⟨t, h1, h2⟩ := hs
    exact ⟨t, h1.nox, h2⟩
  refine ⟨_, (pss_cons (ps_if (PW.pt (pw_or (pt_not (pt_val (pe_callB call_isi (by rfl) T.isinstance (by decide +kernel) (pa_cons (pv 1) (pa_cons (pe_bltn (v := .ty "str") (by rfl) T.str (by decide +kernel) rfl) pa_nil))))) (pw_or1 (pt_cmpR (op_notIn_kd hD) (pv 1) (pe_glob (v := .ref d) rfl hB rfl) (by rfl))))) (pss_one ps_never) pss_nil)
      (pss_cons (ps_expr (pe_cal c_check_number hr' (by rfl) (pa_cons (pv 2) (pa_cons (pe_ix ix_tup (pe_ix ix_kdict (pe_glob (v := .ref d) rfl hB rfl) (pv 1) (fun _ _ => rfl)) pe_int (fun _ _ => rfl)) (pa_cons (pe_ix ix_tup (pe_ix ix_kdict (pe_glob (v := .ref d) rfl hB rfl) (pv 1) (fun _ _ => rfl)) pe_int (fun _ _ => rfl)) pa_nil)))))
      (pss_cons (ps_fld (pv 0) (pv 1) rfl)
      (pss_one (ps_fld (pv 0) (pv 2) rfl))))), ?_⟩
  have ixb : ∀ (H1 : Hp) (σ : L2.St) (j : Nat) (z : Int), σ[1]? = some (some (V.str (nmS k.nm))) → ([V.int (loN k.nm), V.int (hiN k.nm)] : List V)[j]? = some (.int z) → Ev (tOp (rIxT K) (tOp (rIxD K w) (tC (.ref d)) (tVar 1)) (tC (.int (j : Int)))) σ H1 (Eqv (.int z)) := fun H1 σ j z h1 hz =>
    ev_opG (P1 := Eqv (.ref t)) (P2 := Eqv (.int (j : Int))) (ev_opG (P1 := Eqv (.ref d)) (P2 := Eqv (.str (nmS k.nm))) ev_c (ev_v h1) fun u v H2 _ p1 p2 Q q => by
      cases p1; cases p2
      exact ⟨d, _, .ref t, rfl, rfl, ⟨es, n, _, hD.at_, hD.lit, hns, rfl⟩, q _ H2 (Evl.Ex.refl _) rfl⟩) ev_c fun u v H2 _ p1 p2 Q q => by
      cases p1; cases p2
      exact ⟨t, _, _, _, rfl, rfl, htu H2, atI_of rfl hz, q _ H2 (Evl.Ex.refl _) rfl⟩
  refine q_skip (et_or0 (et_not (a := true) (et_B (ev_isi (x := .non) (t := .type "str") (b := true) (ev_v rfl) (fun v H1 p => by cases p; exact .base (.str _)) (kit_ty (by decide +kernel))))) (et_test (b := false) (ev_opG (P1 := Eqv (.str (nmS k.nm))) (P2 := Eqv (.ref d)) (ev_v rfl) ev_c fun u v H2 _ p1 p2 Q q => by
    cases p1; cases p2
    exact ⟨_, _, rfl, rfl, hns, q _ H2 (Evl.Ex.refl _) rfl⟩))) fun H1 e1 => ?_
  refine q_call (ea_3 (P1 := Eqv (.int (k.n : Int))) (ev_v rfl) (ixb H1 _ 0 (loN k.nm) rfl rfl) (ixb H1 _ 1 (hiN k.nm) rfl rfl)) (fun vs H2 e2 ⟨v, u, y, ev, p1, p2, p3⟩ Q E q => by
    subst ev
    cases p1; cases p2; cases p3
    exact ⟨_, _, _, rfl, hlo, hhi, fun H' e' => q _ H' e' trivial⟩) fun H2 e2 => ?_
  have hx2 := (e1.trans e2) _ _ hx
  refine ⟨_, rfl, _, rfl, x, C, dx, [], rfl, hx2, T.cl, T.nN, by decide, ?_⟩
  refine ⟨_, rfl, _, rfl, x, C, dx, _, rfl, upd_same, T.cl, T.nS, by show 1 < 1000; decide, ?_⟩
  exact q _ ((((wo_mono (e1.trans e2)).trans wo_upd)).trans wo_upd) upd_same
section
variable {X : Cx} {p pos : Pos} {e : Expr} {es : List Expr} {t : TA} {k : Nat}
theorem pe_kind (M : Mkr X.prog X.w X.K X.mg X.base C k) (hr : Room (k + 1) X.A) (hg : Gl X "Kind") (hm : X.mg "Kind" = some (.ref C)) (ha : PA X (e :: es) t) (he : starEach (e :: es) X.env = (false, eval e X.env) :: starEach es X.env := by rfl) (hpl : (backTo pos (starEach es X.env)).any (·.1) = false := by rfl) :
    PE X (.Call (.Name "Kind" p) (e :: es) [] pos) (tMake C (spInit C) [] E0 t) := by
  obtain ⟨f, fd, M, b, F⟩ := M.ex
  exact pe_make M F hr hg hm b .nil pass0 ha (by decide) he hpl
end
theorem ev_make {σ : L2.St} {H : Hp} {ta tb : TE} {k : CX.Kd} (hg : k.good) (h1 : Ev ta σ H (Eqv (.str (nmS k.nm)))) (h2 : Ev tb σ H (Eqv (.int (k.n : Nat)))) : Ev (tMake C (spInit C) [] E0 (tCons ta (tCons tb tNil))) σ H (Nu (jK C) H k) := fun H1 e1 Q q =>
  h1 H1 e1 _ fun v H2 e2 p1 => h2 H2 (e1.trans e2) _ fun w H3 e3 p2 => by
    cases p1; cases p2
    intro x dx hx hdx hne
    refine ⟨x, dx, k, rfl, hg, upd_same, fun H' e hx' => ⟨rfl, ?_⟩⟩
    have e4 : Ex H3 H' := fun a o ha => by
      have h1 : a ≠ x := fun z => by rw [z, hx] at ha; cases ha
      have h2 : a ≠ dx := fun z => by rw [z, hdx] at ha; cases ha
      have h3 := e a o (by rw [wo_at h1, upd_ne h1, upd_ne h2]; exact ha)
      rw [wo_at h1] at h3
      exact h3
    refine q _ H' ((e2.trans e3).trans e4) ⟨x, dx, rfl, ?_⟩
    rw [newOf_at (fresh0 ((e1.trans e2).trans e3) hx)]
    exact hx'
end
end SL
end
section
set_option Elab.async false
set_option linter.all false
set_option maxRecDepth 100000
set_option maxHeartbeats 4000000
set_option autoImplicit false
/-! Defs that are called where no repr is under way; repr of data. -/
namespace SL
open PySem PySem.Spec PyProof.Rows L2
/-- what a def promises to callers that know of no repr under way -/
structure FnG (P : Program) (w : World) (K : PySem.W.Frag) (mg : Str → Option Value) (base : Heap) (k : Nat) (f : Addr) (fd : FuncData) (ps : List Str) (sp : Sp) : Prop where
  len : ∀ vs H Q E, sp vs H Q E → vs.length = ps.length
  run : ∀ (A : Around) (outer : List Env) (s : Shared) (H : Hp) (args : Args) (us : List Value) (vs : List V) (Q : VK) (E : XK), A.guards = some [] → Room k A → Env0 P w K mg base A outer s H → BindsTo s fd args (ps.zip us) → Vals vs us → sp vs H Q E →
    codeAny (model P w) A (.call (.ref f) args) (CR CX0 outer P w H s Q E) s
section
variable {P : Program} {w : World} {K : PySem.W.Frag} {mg : Str → Option Value} {base : Heap}
theorem fnG_of {k : Nat} {f : Addr} {name qual : Str} {params : Arguments} {body : List Stmt} {scope : Scope} {dV kV doc pm cdv ct oc : Value} {an od : Option Addr}
    {osl : Array (Option Value)} {N ps : List Str} {sp : Sp} (lk : K.lookup f = some ⟨oc, od, .func (PySem.W.fnOf name qual params body scope dV kV doc pm an cdv ct), osl⟩) (hcd : PySem.W.codeIn K cdv qual = true) (S : FnScope N ps scope)
    (len : ∀ vs H Q E, sp vs H Q E → vs.length = ps.length)
    (hbody : ∀ (A : Around) (outer : List Env) (s : Shared) (H : Hp) (vs : List V) (Q : VK) (E : XK), A.guards = some [] → Room k (A.deeper (envOfC qual scope s.heap.objs.size f cdv)) → sp vs H Q E →
      ∃ t, PSs (cxOf CX0 P w K mg base N qual scope f cdv A outer s H E) body t ∧ t { nx := fun _ H' => Q .non H', rt := Q } (L2.start N vs) H) :
    FnG P w K mg base (k + 1) f (PySem.W.fnOf name qual params body scope dV kV doc pm an cdv ct) ps sp := by
  refine ⟨len, fun A outer s H args us vs Q E hgd hr e0 hb r hsp => ?_⟩
  have up : ∀ b o, base.get? b = some o → s.heap.get? b = some o := fun b o e => (e0.bs b o e).1
  have KX : K.In s.heap := e0.mod.kin.keeps up
  have lim : s.heap.NoLimit := e0.mod.nolimit.keeps up
  have hkind : ∀ y ∈ ps.zip us, scope.names.lookup y.1 = some .local ∨ (scope.names.lookup y.1 = some .cell ∧ ((cellsFrom (s.heap.objs.size + 1) scope.names []).lookup y.1).isSome = true) := fun y hy =>
    (S.par y.1 (List.of_mem_zip (a := y.1) (b := y.2) hy).1).imp (fun q => q) fun q => ⟨q, PySem.W.cellsFrom_some _ _ _ (.inl q)⟩
  refine codeAny_call_function hr.depth (KX _ _ lk) rfl S.co S.gen rfl (PySem.W.codeRec_of KX hcd) (hb _ _ _ _ (wpAny_newFunctionEnv_cells S.kind hkind fun env he s1 x => ?_))
  subst he
  refine ⟨lim.keeps x.toInCall.keep, codeAny_func ?_⟩
  obtain ⟨t, ht, hq⟩ := hbody A outer s H vs Q E hgd (hr.deeper _) hsp
  refine wpAny_mono (ht.run [] s1 (L2.start N vs) H _ (inv_start S hr.hd e0 (len _ _ _ _ hsp) r x) hq) (fun fl s' hs => ?_) fun e s' hs => hs
  match fl, hs with
  | .ret u, ⟨v, σ', H', J, rv, q⟩ => exact ⟨v, H', J.os, J.bare, J.base, J.hok, rv, q⟩
  | .next, ⟨σ', H', J, q⟩ => exact ⟨V.non, H', J.os, J.bare, J.base, J.hok, rfl, q⟩
  | .brk, ⟨_, _, _, q⟩ => exact q.elim
  | .cont, ⟨_, _, _, q⟩ => exact q.elim
/-- a def of the text that asks for it -/
structure CalG (P : Program) (w : World) (K : PySem.W.Frag) (mg : Str → Option Value) (base : Heap) (k : Nat) (x : Str) (ps : List Str) (sp : Sp) : Prop where
  ex : ∃ f fd, mg x = some (.ref f) ∧ PySem.W.keepIn K (.ref f) = true ∧ Binds K fd ps [] ∧ FnG P w K mg base k f fd ps sp
theorem calG_mk {x : Str} {st : Stmt} {N ps : List Str} {k : Nat} {sp : Sp} (D : Dfn K mg x st) (S : FnScope N ps (defScope st)) (len : ∀ vs H Q E, sp vs H Q E → vs.length = ps.length)
    (hb : ∀ (kV doc pm : Value) (an : Option Addr) (cdv ct : Value) (us : List Value), us.length = ps.length → bindArgs (PySem.W.fnOf x x (defArgs st) (defBody st) (defScope st) .none kV doc pm an cdv ct) ⟨us, []⟩ = pure (ps.zip us))
    (body : ∀ (f : Addr) (cdv : Value) (A : Around) (outer : List Env) (s : Shared) (H : Hp) (vs : List V) (Q : VK) (E : XK), A.guards = some [] → Room k (A.deeper (envOfC x (defScope st) s.heap.objs.size f cdv)) → sp vs H Q E →
      ∃ t, PSs (cxOf CX0 P w K mg base N x (defScope st) f cdv A outer s H E).nox (defBody st) t ∧ t { nx := fun _ H' => Q .non H', rt := Q } (L2.start N vs) H) : CalG P w K mg base (k + 1) x ps sp := by
  obtain ⟨f, fd, g, F⟩ := D
  have hbs := F.bindsN hb
  have hkp := F.kp
  obtain ⟨oc, od, dV, kV, doc, pm, an, cdv, ct, osl, rfl, lk, hcd, _, _⟩ := F.ex
  refine ⟨f, _, g, hkp, hbs, fnG_of lk hcd S len fun A outer s H vs Q E hgd hr h => ?_⟩
  obtain ⟨t, h1, h2⟩ := body f cdv A outer s H vs Q E hgd hr h
  exact ⟨t, h1.nox, h2⟩
end
section
variable {X : Cx} {k : Nat} {x : Str} {ps : List Str} {sp : Sp} {p pos : Pos} {e : Expr} {es : List Expr} {t : TA}
theorem pe_calG (c : CalG X.prog X.w X.K X.mg X.base k x ps sp) (hgd : X.A.guards = some []) (hr : Room k X.A) (hg : Gl X x) (ha : PA X (e :: es) t) (hdb : (x == ("__debug__" : Str)) = false := by decide) (he : starEach (e :: es) X.env = (false, eval e X.env) :: starEach es X.env := by rfl)
    (hpl : (backTo pos (starEach es X.env)).any (·.1) = false := by rfl) : PE X (.Call (.Name x p) (e :: es) [] pos) (tCall sp [] E0 t) := by
  obtain ⟨f, fd, g, kp, b, F⟩ := c.ex
  refine ⟨fun pins s σ H Q I h => ?_⟩
  refine wpAny_Call_Name_kw (ld_glob I hg g ?_ hdb)
  refine PySem.W.callWith_K (h₀ := X.base) I.ok.mod.kin kp (thn (ha.run pos pins s σ H _ I h) fun us s1 ⟨vs, H1, I1, r, q⟩ => ⟨I1.kIn, ?_⟩) he hpl
  have r2 : Vals (vs ++ []) (us ++ []) := r.append .nil
  have hl : (us ++ []).length = ps.length := by rw [← r2.length]; exact F.len _ _ _ _ q
  refine wpAny_call (codeAny_mono (F.run X.A X.stack s1 H1 ⟨us, []⟩ (us ++ []) (vs ++ []) Q E0 hgd hr I1.env0 (b s1 us I1.kIn hl) r2 q) fun r s' hq => ?_)
  match r, hq with
  | .error e, hq => exact pass0 pins σ H1 s1 e s' I1 hq
  | .ok (.ret u), hq => exact I1.after hq
  | .ok .next, hq => exact hq.elim
  | .ok .brk, hq => exact hq.elim
  | .ok .cont, hq => exact hq.elim
end
/-! ### repr -/
def rRepr (K : PySem.W.Frag) : List V → Hp → VK → Prop := fun xs H Q => ∃ a d, xs = [.ref a] ∧ Dp K H (.ref a) d ∧ PyData.showable d = true ∧ PyData.hasDict d = false ∧ d.depth ≤ 30 ∧ d.shown.length ≤ sizeLine ∧ Q (.str d.shown) H
theorem call_reprD {X : Cx} (hgd : X.A.guards = some []) (hu : X.A.units + 64 < cLine) : CallR X (.builtin "repr") (rRepr X.K) := by
  intro pins s σ H xs us Q I r h
  obtain ⟨a, d, rfl, hd, h1, h2, h3, h4, q⟩ := h
  cases r with
  | cons r rr =>
    cases rr
    cases r
    obtain ⟨as, hr⟩ := Dp.reads I d (.ref a) (.ref a) hd rfl
    exact repr_of_reads' hr h1 (PyData.noDict_hsm h2) hgd (by omega) (fun _ _ e => e) (fun h' u tk hk => ⟨.str d.shown, H, I.kept (t' := tk) hk, ⟨u, rfl⟩, q⟩) h4
/-- data whose text fits -/
def Fits (d : PyData) : Prop := PyData.showable d = true ∧ PyData.hasDict d = false ∧ d.depth ≤ 30 ∧ d.shown.length ≤ sizeLine
section
variable {K : PySem.W.Frag} {σ : L2.St} {H : Hp} {ta : TE}
theorem ev_repr {d : PyData} (h : Ev ta σ H (fun v H1 => ∃ a, v = .ref a ∧ Dp K H1 (.ref a) d)) (hf : Fits d) : Ev (tCB (rRepr K) (tCons ta tNil)) σ H (Eqv (.str d.shown)) :=
  ev_cb (ea_1 h) fun vs H1 _ ⟨v, e, a, h1, h2⟩ Q q => by
    subst e h1
    exact ⟨a, d, rfl, h2, hf.1, hf.2.1, hf.2.2.1, hf.2.2.2, q _ H1 (Evl.Ex.refl _) rfl⟩
end
/-! a list of lists of small ints -/
structure Sml (D W : Nat) (d : PyData) : Prop where
  sh : PyData.showable d = true
  di : PyData.hasDict d = false
  la : PyData.canLay0 d = true
  sm : PyData.intsShort 13 d = true
  de : d.depth ≤ D
  we : d.weight ≤ W
theorem Sml.int {i : Int} (h : i.natAbs < 10 ^ 9) : Sml 0 30 (.int i) := by
  have hb : i.natAbs < 2 ^ 30 := Nat.lt_trans h (by decide)
  have hl : i.natAbs.log2 < 30 := by
    by_cases c : i.natAbs = 0
    · rw [c]; decide
    · exact (Nat.log2_lt c).mpr hb
  refine ⟨?_, ?_, ?_, ?_, ?_, ?_⟩
  · simp only [PyData.showable]; exact decide_eq_true (by omega)
  · simp only [PyData.hasDict]
  · simp only [PyData.canLay0]
  · simp only [PyData.intsShort]
    refine decide_eq_true ?_
    simp only [PyData.shown]
    have := int_text_length_le10 (a := i) (k := 9) (by decide) h
    rw [PySem.ofString_length]
    omega
  · simp only [PyData.depth]; exact Nat.le_refl 0
  · simp only [PyData.weight]
    split <;> omega
theorem sml_all {D W : Nat} : ∀ ds : List PyData, (∀ d, d ∈ ds → Sml D W d) → PyData.showableAll ds = true ∧ PyData.hasDictAll ds = false ∧ PyData.canLayAll0 ds = true ∧ PyData.intsShortAll 13 ds = true ∧ PyData.depthAll ds ≤ D ∧ PyData.weightAll ds ≤ ds.length * (W + 1)
  | [], _ => by
    simp only [PyData.showableAll, PyData.hasDictAll, PyData.canLayAll0, PyData.intsShortAll, PyData.depthAll, PyData.weightAll]
    exact ⟨trivial, trivial, trivial, trivial, Nat.zero_le _, Nat.zero_le _⟩
  | d :: ds, h => by
    obtain ⟨h1, h2, h3, h4, h5, h6⟩ := sml_all ds fun x hx => h x (List.mem_cons_of_mem _ hx)
    have hd := h d List.mem_cons_self
    simp only [PyData.showableAll, PyData.hasDictAll, PyData.canLayAll0, PyData.intsShortAll, PyData.depthAll, PyData.weightAll]
    refine ⟨by rw [hd.sh, h1]; rfl, by rw [hd.di, h2]; rfl, by rw [hd.la, h3]; rfl, by rw [hd.sm, h4]; rfl, Nat.max_le.mpr ⟨hd.de, h5⟩, ?_⟩
    have := hd.we
    rw [List.length_cons, Nat.succ_mul]
    omega
theorem Sml.list {D W n : Nat} {ds : List PyData} (h : ∀ d, d ∈ ds → Sml D W d) (hn : ds.length ≤ n) : Sml (D + 1) (n * (W + 1)) (.list ds) := by
  obtain ⟨h1, h2, h3, h4, h5, h6⟩ := sml_all ds h
  refine ⟨?_, ?_, ?_, ?_, ?_, ?_⟩
  · simp only [PyData.showable]; exact h1
  · simp only [PyData.hasDict]; exact h2
  · simp only [PyData.canLay0]; exact h3
  · simp only [PyData.intsShort]; exact h4
  · simp only [PyData.depth]; exact Nat.succ_le_succ h5
  · simp only [PyData.weight]; exact Nat.le_trans h6 (Nat.mul_le_mul_right _ hn)
theorem Sml.fits {D W : Nat} {d : PyData} (h : Sml D W d) (hD : D ≤ 30) (hW : W ≤ 2 ^ 20) : Fits d :=
  ⟨h.sh, h.di, Nat.le_trans h.de hD, PyData.shown_fits (B := 13) (by decide) (by decide) (PyData.leavesShort_of_canLay0 13 d h.la h.sm) (Nat.le_trans h.we hW)⟩
/-- orders whose items are small -/
def Sm (o : List Int) : Prop := o.length ≤ 10 ∧ ∀ v, v ∈ o → v.natAbs < 10 ^ 9
theorem fits_LL {xs : List (List Int)} (hn : xs.length ≤ 10) (h : ∀ x, x ∈ xs → Sm x) : Fits ((encL encLI).enc xs) := by
  refine Sml.fits (D := 2) (W := 10 * (10 * 31 + 1)) (Sml.list (D := 1) (W := 10 * 31) (fun d hd => ?_) (by rw [List.length_map]; exact hn)) (by decide) (by decide)
  obtain ⟨x, hx, rfl⟩ := List.mem_map.mp hd
  refine Sml.list (D := 0) (W := 30) (fun e he => ?_) (by rw [List.length_map]; exact (h x hx).1)
  obtain ⟨v, hv, rfl⟩ := List.mem_map.mp he
  exact Sml.int ((h x hx).2 v hv)
end SL
end
section
set_option Elab.async false
set_option linter.all false
set_option autoImplicit false
/-! Items of orders are small. -/
namespace CX
section
variable {k : Kd} {o w : List Int} {s c : Nat}
def Bd (c : Nat) (o : List Int) : Prop := ∀ v, v ∈ o → v.natAbs ≤ c
theorem Bd.gI (h : Bd c o) (i : Nat) : (gI o i).natAbs ≤ c := by
  unfold CX.gI
  rw [List.getD_eq_getElem?_getD]
  cases e : o[i]? with
  | none => exact Nat.zero_le _
  | some x => exact h x (List.mem_of_getElem? e)
theorem Bd.set (h : Bd c o) {i : Nat} {z : Int} (hz : z.natAbs ≤ c) : Bd c (o.set i z) := fun v hv => by
  rcases List.mem_or_eq_of_mem_set hv with e | e
  · exact h v e
  · rw [e]; exact hz
theorem Bd.up {c' : Nat} (h : Bd c o) (e : c ≤ c') : Bd c' o := fun v hv => Nat.le_trans (h v hv) e
theorem Bd.sw (h : Bd c o) (i : Nat) : Bd c (sw o i) := (h.set (h.gI _)).set (h.gI _)
theorem Bd.by (h : Bd c o) (hl : o.length ≤ 7) : Bd (c + 7) (byK k o s) := by
  have h7 : Bd (c + 7) o := h.up (Nat.le_add_right _ _)
  obtain ⟨nm, n⟩ := k
  cases nm with
  | plain => exact h7.sw s
  | mirror =>
    show Bd (c + 7) (if s = 0 then o.set 0 (-(CX.gI o 0)) else CX.sw o (s - 1))
    split
    · exact h7.set (by rw [Int.natAbs_neg]; exact h7.gI 0)
    · exact h7.sw _
  | ring =>
    show Bd (c + 7) (if s + 1 = o.length then (o.set 0 (CX.gI o s - (o.length : Int))).set s (CX.gI o 0 + (o.length : Int)) else CX.sw o s)
    split
    · have h1 := h.gI s
      have h2 := h.gI 0
      exact (h7.set (by omega)).set (by omega)
    · exact h7.sw s
theorem Bd.bys (hg : k.good) : ∀ (r : List Nat) (c : Nat) (o : List Int), Bd c o → o.length = k.n → (∀ s, s ∈ r → s < k.steps) → k.n ≤ 7 → Bd (c + 7 * r.length) (r.foldl (byK k) o)
  | [], c, o, h, _, _, _ => h
  | s :: r, c, o, h, hl, hr, hn => by
    have h1 := Bd.bys hg r (c + 7) _ (h.by (k := k) (s := s) (by omega)) (by_len hg (hr s List.mem_cons_self) hl) (fun t ht => hr t (List.mem_cons_of_mem _ ht)) hn
    rw [List.length_cons, show c + 7 * (r.length + 1) = c + 7 + 7 * r.length by omega]
    exact h1
theorem start_bd (k : Kd) (hn : k.n ≤ 7) : Bd 8 k.start := fun v hv => by
  obtain ⟨i, hi, rfl⟩ := List.mem_map.mp hv
  have := List.mem_range.mp hi
  have hf : k.first ≤ 1 := by
    obtain ⟨nm, n⟩ := k
    cases nm <;> simp [Kd.first]
  omega
theorem small_of (hg : k.good) (hn : k.n ≤ 7) (hw : Okk k w) (hc : crK k w ≤ 60) : w.length ≤ 7 ∧ Bd 428 w := by
  obtain ⟨r, hr⟩ := red_ex (S := sysK k hg) hw
  have h1 : r.length = crK k w := hr.len.symm
  have h2 : r.foldl (byK k) k.start = w := hr.made
  have h3 := Bd.bys hg r 8 k.start (start_bd k hn) start_len hr.wd hn
  rw [h2] at h3
  refine ⟨?_, h3.up (by omega)⟩
  rw [(hw.sh hg).len]
  exact hn
end
end CX
end
section
set_option Elab.async false
set_option linter.all false
set_option maxRecDepth 100000
set_option maxHeartbeats 4000000
set_option autoImplicit false
/-! Sums of lists that stand; lists of four ints; cuts; calls by keywords. -/
namespace SL
open PySem PySem.Spec PyProof.Rows L2
section
variable {K : PySem.W.Frag} {X : Cx} {σ : L2.St} {H H' H0 : Hp} {ta tb tc td te tl : TE} {tt tu : TT} {x y z v : V} {P P' P1 P2 P3 : V → Hp → Prop} {D : Ends} {ts tw tz : TS} {i j : Nat} {g : Addr} {α β γ ε : Type} {R : RP α} {S : RP β}
theorem ev_catI {xs ys : List α} (h1 : Ev ta σ H (Is (jL R) xs)) (h2 : Ev tb σ H (Is (jL R) ys)) (hz : xs.length + ys.length ≤ 100000) : Ev (tOp rCat ta tb) σ H (Is (jL R) (xs ++ ys)) :=
  ev_opG h1 h2 fun u w H1 e ⟨a, ws, ea, ha, hp⟩ ⟨b, us, eb, hb, hq⟩ Q q => by
    subst ea eb
    exact ⟨a, b, ws, us, rfl, rfl, ha, hb, Evl.sz_of (by rw [paired_len hp, paired_len hq]; exact hz), fun p hn => q _ _ (Evl.Ex.new hn) ⟨p, _, rfl, upd_same, paired_app (paired_mono (fun _ _ z => R.mono (Evl.Ex.new hn) z) hp) (paired_mono (fun _ _ z => R.mono (Evl.Ex.new hn) z) hq)⟩⟩
theorem ev_oneI {x : α} (h : Ev te σ H (Is R x)) : Ev (tLst (tCons te tNil)) σ H (Is (jL R) [x]) :=
  ev_lst (ea_1 h) (fun vs H1 ⟨v, e, _⟩ => by rw [e]; show 1 ≤ 100000; decide) fun vs H1 p e ⟨v, ev, p1⟩ hn => by
    subst ev
    exact ⟨p, [v], rfl, upd_same, .cons (R.mono (Evl.Ex.new hn) p1) .nil⟩
theorem ev_twoI {x y : α} (h : Ev ta σ H (Is R x)) (h2 : Ev tb σ H (Is R y)) : Ev (tLst (tCons ta (tCons tb tNil))) σ H (Is (jL R) [x, y]) :=
  ev_lst (ea_2 h h2) (fun vs H1 ⟨v, w, e, _⟩ => by rw [e]; show 2 ≤ 100000; decide) fun vs H1 p e ⟨v, w, ev, p1, p2⟩ hn => by
    subst ev
    exact ⟨p, [v, w], rfl, upd_same, .cons (R.mono (Evl.Ex.new hn) p1) (.cons (R.mono (Evl.Ex.new hn) p2) .nil)⟩
theorem ev_twoE {p1 p2 : α → Prop} (h : Ev ta σ H (NuE R H p1)) (h2 : Ev tb σ H (NuE R H p2)) : Ev (tLst (tCons ta (tCons tb tNil))) σ H (NuE (jL R) H (fun r => ∃ a b, p1 a ∧ p2 b ∧ r = [a, b])) :=
  ev_lst (ea_2 h h2) (fun vs H1 ⟨v, w, e, _⟩ => by rw [e]; show 2 ≤ 100000; decide) fun vs H1 p e ⟨v, w, ev, ⟨a, pa, ra⟩, ⟨b, pb, rb⟩⟩ hn => by
    subst ev
    exact ⟨[a, b], ⟨a, b, pa, pb, rfl⟩, p, [v, w], rfl, newOf_new e hn, .cons (R.mono (newOf_upd hn) ra) (.cons (R.mono (newOf_upd hn) rb) .nil)⟩
theorem ev_fourI {a b c d : Int} (h1 : Ev ta σ H (Eqv (.int a))) (h2 : Ev tb σ H (Eqv (.int b))) (h3 : Ev tc σ H (Eqv (.int c))) (h4 : Ev td σ H (Eqv (.int d))) : Ev (tLst (tCons ta (tCons tb (tCons tc (tCons td tNil))))) σ H (Is jLI [a, b, c, d]) :=
  ev_lst (ea_4 h1 h2 h3 h4) (fun vs H1 ⟨v, w, u, t, e, _⟩ => by rw [e]; show 4 ≤ 100000; decide) fun vs H1 p e ⟨v, w, u, t, ev, p1, p2, p3, p4⟩ hn => by
    subst ev
    cases p1; cases p2; cases p3; cases p4
    exact ⟨p, rfl, upd_same⟩
/-- x, y = a, b by a pair -/
theorem q_tup2 {P2 : Hp → V → Hp → Prop} [s1 : Stab P1] (h1 : Ev ta σ H P1) (h2 : ∀ v H1, Ex H H1 → P1 v H1 → Ev tb σ H1 (P2 H1)) (k : ∀ v w H1 H2 H3, Ex H H1 → P1 v H1 → Ex H1 H2 → P2 H1 w H2 → Ex H2 H3 → tz D ((σ.set i (some v)).set j (some w)) H3) :
    tSeq (tAsg (tTup (tCons ta (tCons tb tNil))) (gTup K 2 (gCons (gName i) (gCons (gName j) gNil)))) tz D σ H :=
  h1 H (Evl.Ex.refl H) _ fun v H1 e1 p1 => h2 v H1 e1 p1 H1 (Evl.Ex.refl H1) _ fun w H2 e2 p2 => ⟨Evl.sz_of (show 2 ≤ 100000 by decide), fun t ht => ⟨t, _, rfl, .inl (.inl upd_same), rfl, _, _, rfl, _, _, rfl, rfl, k v w H1 H2 _ e1 p1 e2 p2 (Evl.Ex.new ht)⟩⟩
/-- f(k = v, ..): both parameters, the second first -/
def gK (us ws : List Value) : List Value := match us with
  | [] => ws.reverse
  | _ => []
def gKV (vs zs : List V) : List V := match vs with
  | [] => zs.reverse
  | _ => []
theorem gK_two {us ws : List Value} (h : (gK us ws).length = 2) : ∃ a b, us = [] ∧ ws = [a, b] := by
  cases us with
  | cons u us => exact absurd h (by show ¬ (0 : Nat) = 2; decide)
  | nil =>
    have h : ws.reverse.length = 2 := h
    rw [List.length_reverse] at h
    match ws, h with
    | [a, b], _ => exact ⟨a, b, rfl, rfl⟩
theorem vals_rev : ∀ {zs : List V} {ws : List Value}, Vals zs ws → Vals zs.reverse ws.reverse
  | _, _, .nil => .nil
  | _, _, .cons r t => by
    rw [List.reverse_cons, List.reverse_cons]
    exact (vals_rev t).append (.cons r .nil)
theorem gK_rel {vs : List V} {us : List Value} {zs : List V} {ws : List Value} (h : Vals vs us) (h2 : Vals zs ws) : Vals (gKV vs zs) (gK us ws) := by
  cases h with
  | nil => exact vals_rev h2
  | cons _ _ => exact .nil
theorem ev_ck2 {R1 : RP α} {R2 : RP β} {RR : RP ε} {x : α} {y : β} {pre : α → β → Prop} {post : α → β → ε → Prop} (h2 : Ev tb σ H (Is R2 y)) (h1 : Ev ta σ H (Is R1 x)) (hp : pre x y) : Ev (tCallK (sp2 R1 R2 RR pre post) gKV E0 tNil (tCons tb (tCons ta tNil))) σ H (NuE RR H (post x y)) := fun H1 e1 Q q =>
  h2 H1 e1 _ fun w H2 e2 p2 => h1 H2 (e1.trans e2) _ fun v H3 e3 p1 => ⟨v, w, x, y, rfl, p1, R2.mono e3 p2, hp, fun u H' r e4 po rr => q u H' ((e2.trans e3).trans e4) ⟨r, po, RR.mono (newOf_back ((e1.trans e2).trans e3)) rr⟩⟩
/-- a bool is not True -/
theorem et_isnotT {b : Bool} (h : Ev ta σ H (Eqv (.bl b))) : EvT (tTest (tOp (fun x y H Q => ∃ a b, x = .bl a ∧ y = .bl b ∧ Q (.bl (!decide (a = b))) H) ta (tC (.bl true)))) σ H (!b) :=
  et_test ((ev_opG (P1 := Eqv (.bl b)) (P2 := Eqv (.bl true)) h ev_c fun u w H1 _ p1 p2 Q q => by
    cases p1; cases p2
    exact ⟨_, _, rfl, rfl, q _ H1 (Evl.Ex.refl H1) rfl⟩).eq (congrArg V.bl (by cases b <;> rfl)))
end
end SL
end
section
set_option Elab.async false
set_option linter.all false
set_option maxRecDepth 100000
set_option maxHeartbeats 4000000
set_option autoImplicit false
/-! The loop that appends to the layers of what was answered. -/
namespace SL
open PySem PySem.Spec PyProof.Rows L2
/-- a list of lists of ints, new since G, its items at unlike places -/
structure FrL (G H : Hp) (p : Addr) (ws : List V) (z : List (List Int)) : Prop where
  at_ : H p = some (.lst ws)
  nw : G p = none
  it : Paired (jLI.r (newOf G H)) ws z
  nd : ws.Nodup
theorem paired_keep {α : Type} {F F' : V → α → Prop} : ∀ {ws : List V} {xs : List α}, (∀ v x, v ∈ ws → F v x → F' v x) → Paired F ws xs → Paired F' ws xs
  | _, _, _, .nil => .nil
  | _, _, k, .cons r t => .cons (k _ _ List.mem_cons_self r) (paired_keep (fun v x h => k v x (List.mem_cons_of_mem _ h)) t)
theorem int_at {G H H' : Hp} {v : V} {x : List Int} (h : jLI.r (newOf G H) v x) (k : ∀ b, v = .ref b → ∀ o, H b = some o → H' b = some o) : jLI.r (newOf G H') v x := by
  obtain ⟨b, ev, hb⟩ := h
  obtain ⟨h1, h2⟩ := newOf_some hb
  exact ⟨b, ev, by rw [newOf_at h1]; exact k b ev _ h2⟩
theorem FrL.keep {G H H' : Hp} {p : Addr} {ws : List V} {z : List (List Int)} (h : FrL G H p ws z) (hp : ∀ o, H p = some o → H' p = some o) (k : ∀ b, V.ref b ∈ ws → ∀ o, H b = some o → H' b = some o) : FrL G H' p ws z :=
  ⟨hp _ h.at_, h.nw, paired_keep (fun v x hv q => int_at q fun b e => k b (by rw [← e]; exact hv)) h.it, h.nd⟩
theorem FrL.self {G H : Hp} {p : Addr} {ws : List V} {z : List (List Int)} (h : FrL G H p ws z) : V.ref p ∉ ws := by
  intro hm
  obtain ⟨x, b, e, hb⟩ := paired_mem h.it hm
  cases e
  have h2 := (newOf_some hb).2
  rw [h.at_] at h2
  have e : ws = x.map V.int := by
    injection h2 with h1
    injection h1
  rw [e] at hm
  obtain ⟨z, _, hz⟩ := List.mem_map.mp hm
  cases hz
theorem cutV_mid (xs : List V) {n : Nat} (h : xs.length = n + 1) : cutV xs (some 1) (some (-1)) = (xs.drop 1).take (n - 1) := by
  unfold cutV
  have e1 : HT.sIx xs.length 0 (some 1) = 1 := by
    rw [show (1 : Int) = ((1 : Nat) : Int) from rfl, HT.sIx_nat, h]; omega
  have e2 : HT.sIx xs.length xs.length (some (-1)) = n := by
    rw [h]
    show (if (-1 : Int) < 0 then ((-1 : Int) + ((n + 1 : Nat) : Int)).toNat else min (-1 : Int).toNat (n + 1)) = n
    rw [if_pos (by decide)]
    omega
  rw [e1, e2]
section
variable {K : PySem.W.Frag} {σ : L2.St} {H H' G : Hp} {ta tb te : TE} {D : Ends} {tz : TS} {i j n : Nat} {p : Addr} {ws : List V} {z zs xs : List (List Int)} {st : List Int}
theorem ev_cut1 (hv : σ[i]? = some (some (.ref p))) (hp : H p = some (.lst ws)) (hz : Paired (jLI.r H) (ws.drop 1) zs) : Ev (tSl (rSlL K) (tVar i) (tPart (tC (.int 1))) tNoPart) σ H (fun v H1 => ∃ a, v = .ref a ∧ Dp K H1 (.ref a) ((encL encLI).enc zs)) := fun H1 e1 Q q =>
  ⟨.ref p, hv, 1, rfl, p, ws, rfl, .inl (.inl (e1 _ _ hp)), fun l hl => q _ _ (Evl.Ex.new hl) ⟨l, rfl, (encL encLI).dp ⟨l, _, rfl, upd_same, by
    rw [show (1 : Int) = ((1 : Nat) : Int) from rfl, cutV_from]
    exact paired_mono (fun _ _ q => jLI.mono (e1.trans (Evl.Ex.new hl)) q) hz⟩⟩⟩
theorem ev_cut2 (hv : σ[i]? = some (some (.ref p))) (hp : H p = some (.lst ws)) (hn : ws.length = n + 1) (hz : Paired (jLI.r H) ((ws.drop 1).take (n - 1)) zs) : Ev (tSl (rSlL K) (tVar i) (tPart (tC (.int 1))) (tPart (tUn (rU fun i => .int (-i)) (tC (.int 1))))) σ H (fun v H1 => ∃ a, v = .ref a ∧ Dp K H1 (.ref a) ((encL encLI).enc zs)) := fun H1 e1 Q q =>
  ⟨.ref p, hv, 1, rfl, 1, rfl, -1, rfl, p, ws, rfl, .inl (.inl (e1 _ _ hp)), fun l hl => q _ _ (Evl.Ex.new hl) ⟨l, rfl, (encL encLI).dp ⟨l, _, rfl, upd_same, by
    rw [cutV_mid _ hn]
    exact paired_mono (fun _ _ q => jLI.mono (e1.trans (Evl.Ex.new hl)) q) hz⟩⟩⟩
theorem ev_ixA {v : V} {m : Int} (hv : σ[i]? = some (some (.ref p))) (hp : H p = some (.lst ws)) (hi : Ev tb σ H (Eqv (.int m))) (en : m = (j : Int)) (h : ws[j]? = some v) : Ev (tOp (rIxL K) (tVar i) tb) σ H (Eqv v) :=
  ev_opG (P1 := Eqv (.ref p)) (ev_v hv) hi fun u w H1 e h3 h4 Q q => by
    cases h3; cases h4
    exact ⟨p, ws, m, v, rfl, rfl, .inl (.inl (e _ _ hp)), atI_of en h, q _ H1 (Evl.Ex.refl H1) rfl⟩
theorem ev_lenA (hv : σ[i]? = some (some (.ref p))) (hp : H p = some (.lst ws)) : Ev (tCB (rLen' K) (tCons (tVar i) tNil)) σ H (Eqv (.int (ws.length : Int))) :=
  ev_cb (ea_1 (P := Eqv (.ref p)) (ev_v hv)) fun vs H1 e ⟨v, ev, p1⟩ Q q => by
    subst ev
    cases p1
    exact ⟨p, ws, rfl, .inl (.inl (.inl (e _ _ hp))), q _ H1 (Evl.Ex.refl H1) rfl⟩
end
def goodBody (K : PySem.W.Frag) : TS := tSeq (tAsg (tCB (rRepr K) (tCons (tSl (rSlL K) (tVar 16) (tPart (tC (.int 1))) tNoPart) tNil)) (gName 17))
  (tSeq (tDrop (tBM K "list" rAppend (tOp (rIxL K) (tVar 16) (tC (.int 0))) (tCons (tC .non) tNil)))
  (tSeq (tIfS (tOr (tTest (tOp rNe (tCB (rRepr K) (tCons (tSl (rSlL K) (tVar 16) (tPart (tC (.int 1))) tNoPart) tNil)) (tVar 17))) (tTest (tOp (rNeD K) (tVar 2) (tVar 6)))) (tRet (tC (.bl false))) tNext)
  (tSeq (tDrop (tBM K "list" rAppend (tOp (rIxL K) (tVar 16) (tOp (rI0 fun i j => .int (i - j)) (tCB (rLen' K) (tCons (tVar 16) tNil)) (tC (.int 1)))) (tCons (tC .non) tNil)))
  (tIfS (tOr (tTest (tOp (rNeD K) (tVar 2) (tVar 6))) (tTest (tOp rNe (tCB (rRepr K) (tCons (tSl (rSlL K) (tVar 16) (tPart (tC (.int 1))) (tPart (tUn (rU fun i => .int (-i)) (tC (.int 1))))) tNil)) (tCB (rRepr K) (tCons (tSl (rSlL K) (tVar 5) (tPart (tC (.int 1))) tNoPart) tNil))))) (tRet (tC (.bl false))) tNext))))
abbrev sg (a0 a1 : Option V) (vx vt ve vs vq : V) (a7 a8 a9 a10 a11 a12 a13 a14 a15 c d : Option V) : L2.St := [a0, a1, some vx, some vt, some ve, some vs, some vq, a7, a8, a9, a10, a11, a12, a13, a14, a15, c, d]
section
variable {K : PySem.W.Frag} {σ : L2.St} {H H' G : Hp} {ta tb te : TE} {D : Ends} {tz : TS} {i j n : Nat} {p : Addr} {ws : List V} {z zs xs : List (List Int)} {st : List Int}
  {a0 a1 a7 a8 a9 a10 a11 a12 a13 a14 a15 c17 c16 : Option V} {vx vt ve vs vq : V}
theorem scal_str {s t : Str} : scal (.str s) (.str t) = true := rfl
theorem ne_str {s : Str} : (!decide (V.str s = V.str s)) = false := by rw [decide_eq_true rfl]; rfl
theorem ne_stand {σ : L2.St} {H : Hp} {vx vq : V} (h2 : σ[2]? = some (some vx)) (h6 : σ[6]? = some (some vq)) (e : Ex G H) (hx : (jL jLI).r G vx xs) (hq : (jL jLI).r G vq xs) : EvT (tTest (tOp (rNeD K) (tVar 2) (tVar 6))) σ H false :=
  (et_test (ev_neD (encL encLI) (ev_var h2 ((jL jLI).mono e hx)) (ev_var h6 ((jL jLI).mono e hq)))).eq (by rw [decide_eq_true rfl]; rfl)
theorem good_body (eG : Ex G H) (hx : (jL jLI).r G vx xs) (hq : (jL jLI).r G vq xs) (hs : (jL jLI).r G vs (List.replicate n st)) (f : FrL G H p ws z) (hl : z.length = n + 1) (hn : n ≤ 4)
    (hz : ∀ x, x ∈ z → Sm x) (hst : Sm st) (hc : (z.drop 1).take (n - 1) = List.replicate (n - 1) st)
    (k : ∀ u H', Ex G H' → (∀ b o, H b = some o → V.ref b ∉ ws → H' b = some o) → D.nx (sg a0 a1 vx vt ve vs vq a7 a8 a9 a10 a11 a12 a13 a14 a15 (some (.ref p)) (some u)) H') :
    goodBody K D (sg a0 a1 vx vt ve vs vq a7 a8 a9 a10 a11 a12 a13 a14 a15 (some (.ref p)) c17) H := by
  have hself := f.self
  obtain ⟨hp, hGp, hpair, hnd⟩ := f
  have hlw := paired_len hpair
  have h0 : Paired (jLI.r H) ws z := paired_mono (fun _ _ q => jLI.mono newOf_ex q) hpair
  have fit1 : Fits ((encL encLI).enc (z.drop 1)) := fits_LL (by rw [List.length_drop]; omega) fun x hx => hz x (List.mem_of_mem_drop hx)
  cases hpair with
  | nil => exact absurd hl (by show ¬ 0 = n + 1; omega)
  | @cons v0 x0 wr zr r t => ?_
  obtain ⟨b0, rfl, hb0'⟩ := r
  obtain ⟨hG0, hb0⟩ := newOf_some hb0'
  have hx0 := hz x0 List.mem_cons_self
  have hpb : p ≠ b0 := fun e => hself (by rw [e]; exact List.mem_cons_self)
  refine q_set (P := Eqv (.str _)) (ev_repr (ev_cut1 rfl hp (paired_drop 1 h0)) fit1) fun v H1 e1 p1 => ?_
  cases p1
  refine q_app (l := b0) (P := Eqv .non) (e1 _ _ hb0) (ev_ixA (j := 0) rfl (e1 _ _ hp) ev_c rfl rfl) ev_c (by rw [List.length_map]; have := hx0.1; omega) fun v H2 e2 p2 => ?_
  cases p2
  have e12 := e1.trans e2
  generalize hH3 : upd H2 b0 (.lst (x0.map V.int ++ [.non])) = H3
  have at3 : ∀ b o, b ≠ b0 → H b = some o → H3 b = some o := fun b o hb ho => by rw [← hH3, upd_ne hb]; exact e12 _ _ ho
  have eG3 : Ex G H3 := by rw [← hH3]; exact ex_upd (eG.trans e12) hG0
  have hp3 := at3 _ _ hpb hp
  have hnd1 := (List.nodup_cons.mp hnd)
  have t3 : Paired (jLI.r (newOf G H3)) wr zr := paired_keep (fun v x hv q => int_at q fun b e o ho => at3 b o (fun z => hnd1.1 (by rw [← z, ← e]; exact hv)) ho) t
  have t3' : Paired (jLI.r H3) wr zr := paired_mono (fun _ _ q => jLI.mono newOf_ex q) t3
  refine q_skip (et_or (a := false) (b := false) ((et_test (ev_ne (ev_repr (ev_cut1 rfl hp3 t3') fit1) (ev_v rfl) scal_str)).eq ne_str) fun _ => ne_stand rfl rfl eG3 hx hq) fun H4 e4 => ?_
  have hlen : (V.ref b0 :: wr).length = n + 1 := by rw [hlw, hl]
  obtain ⟨bN, us, hN, hbN, hus, hGN⟩ : ∃ bN us, (V.ref b0 :: wr)[n]? = some (V.ref bN) ∧ H3 bN = some (.lst us) ∧ us.length < 100000 ∧ G bN = none := by
    cases n with
    | zero => exact ⟨b0, _, rfl, by rw [← hH3]; exact upd_same, by rw [List.length_append, List.length_map]; have := hx0.1; show x0.length + 1 < _; omega, hG0⟩
    | succ m =>
      have hm : m < zr.length := by have : zr.length + 1 = m + 1 + 1 := hl; omega
      obtain ⟨v, hv, bN, e, hb⟩ := paired_get' t3 (List.getElem?_eq_getElem hm)
      subst e
      obtain ⟨h1, h2⟩ := newOf_some hb
      exact ⟨bN, _, hv, h2, by rw [List.length_map]; have := (hz zr[m] (List.mem_cons_of_mem _ (List.getElem_mem hm))).1; omega, h1⟩
  have hmN : V.ref bN ∈ (V.ref b0 :: wr) := List.mem_of_getElem? hN
  have hpN : p ≠ bN := fun e => hself (by rw [e]; exact hmN)
  refine q_app (l := bN) (P := Eqv .non) (e4 _ _ hbN) (ev_ixA (j := n) rfl (e4 _ _ hp3) (ev_i0 (ev_lenA rfl (e4 _ _ hp3)) ev_c) (by rw [hlen]; omega) hN) ev_c hus fun v H5 e5 p5 => ?_
  cases p5
  have e45 := e4.trans e5
  generalize hH6 : upd H5 bN (.lst (us ++ [.non])) = H6
  have at6 : ∀ b o, b ≠ bN → H3 b = some o → H6 b = some o := fun b o hb ho => by rw [← hH6, upd_ne hb]; exact e45 _ _ ho
  have eG6 : Ex G H6 := by rw [← hH6]; exact ex_upd (eG3.trans e45) hGN
  have hp6 := at6 _ _ hpN hp3
  have t6 : Paired (jLI.r H6) (wr.take (n - 1)) (List.replicate (n - 1) st) := by
    rw [← hc]
    refine paired_keep (fun v x hv q => ?_) (paired_take (n - 1) t3)
    refine jLI.mono newOf_ex (int_at q fun b e o ho => at6 b o (fun z => ?_) ho)
    subst e z
    cases n with
    | zero => exact nomatch hv
    | succ m =>
      have hd : V.ref b ∈ wr.drop m := List.mem_of_getElem? (i := 0) (by rw [List.getElem?_drop]; exact hN)
      have h3 := hnd1.2
      rw [← List.take_append_drop m wr] at h3
      exact (List.nodup_append.mp h3).2.2 _ hv _ hd rfl
  have fit2 : Fits ((encL encLI).enc (List.replicate (n - 1) st)) := fits_LL (by rw [List.length_replicate]; omega) fun x hx => by rw [List.eq_of_mem_replicate hx]; exact hst
  refine s_skip (et_or (a := false) (b := false) (ne_stand rfl rfl eG6 hx hq) fun _ => (et_test (ev_ne (ev_repr (ev_cut2 (n := n) rfl hp6 hlen t6) fit2) (ev_repr (Ev.imp (ev_fromL (a := 1) (ev_var rfl ((jL jLI).mono eG6 hs)) ev_c rfl) fun v H1 _ p => ?_) fit2) scal_str)).eq ne_str) fun H7 e7 => ?_
  · obtain ⟨a, vs, rfl, h1, h2⟩ := p
    rw [List.drop_replicate] at h2
    exact ⟨a, rfl, (encL encLI).dp ⟨a, vs, rfl, h1, h2⟩⟩
  · exact k _ H7 (eG6.trans e7) fun b o hb hm => e7 _ _ (at6 b o (fun z => hm (by rw [z]; exact hmN)) (at3 b o (fun z => hm (by rw [z]; exact List.mem_cons_self)) hb))
theorem frl_of {v : V} (h : Nu (jLd jLI) G z v H) : ∃ p ws, v = .ref p ∧ FrL G H p ws z := by
  obtain ⟨p, ws, e, h1, h2, h3⟩ := h
  obtain ⟨h4, h5⟩ := newOf_some h1
  exact ⟨p, ws, e, h5, h4, h2, h3⟩
theorem FrL.some {b : Addr} (h : FrL G H p ws z) (hb : V.ref b ∈ ws) : H b ≠ none := by
  obtain ⟨x, c, e, hc⟩ := paired_mem h.it hb
  cases e
  rw [(newOf_some hc).2]
  exact fun z => nomatch z
theorem FrL.none {b : Addr} (h : FrL G H p ws z) (hb : V.ref b ∈ ws) : G b = none := by
  obtain ⟨x, c, e, hc⟩ := paired_mem h.it hb
  cases e
  exact (newOf_some hc).1
theorem good_loop {te1 te2 : TE} {top bot : List (List Int)} (hx : (jL jLI).r H vx xs) (hq : (jL jLI).r H vq xs) (hs : (jL jLI).r H vs (List.replicate n st)) (hn : n ≤ 4) (hst : Sm st)
    (h1 : Ev te1 (sg a0 a1 vx vt ve vs vq a7 a8 a9 a10 a11 a12 a13 a14 a15 c16 c17) H (Nu (jLd jLI) H top)) (h2 : ∀ H1, Ex H H1 → Ev te2 (sg a0 a1 vx vt ve vs vq a7 a8 a9 a10 a11 a12 a13 a14 a15 c16 c17) H1 (Nu (jLd jLI) H1 bot))
    (hl : top.length = n + 1) (hz : ∀ x, x ∈ top → Sm x) (hc : (top.drop 1).take (n - 1) = List.replicate (n - 1) st)
    (hl' : bot.length = n + 1) (hz' : ∀ x, x ∈ bot → Sm x) (hc' : (bot.drop 1).take (n - 1) = List.replicate (n - 1) st)
    (k : ∀ c d H', Ex H H' → tz D (sg a0 a1 vx vt ve vs vq a7 a8 a9 a10 a11 a12 a13 a14 a15 c d) H') :
    tSeq (tFor (iList K (tLst (tCons te1 (tCons te2 tNil)))) (gName 16) (goodBody K)) tz D (sg a0 a1 vx vt ve vs vq a7 a8 a9 a10 a11 a12 a13 a14 a15 c16 c17) H := by
  refine h1 H (Evl.Ex.refl H) _ fun vu H1 e1 p1 => h2 H1 e1 H1 (Evl.Ex.refl H1) _ fun vl H2 e2 p2 => ⟨Evl.sz_of (show 2 ≤ 100000 by decide), fun a ha => ?_⟩
  obtain ⟨pu, wu, rfl, fu⟩ := frl_of p1
  obtain ⟨pl, wl, rfl, fl⟩ := frl_of p2
  have e3 : Ex H2 (upd H2 a (.lst [.ref pu, .ref pl])) := Evl.Ex.new ha
  have fu3 : FrL H (upd H2 a (.lst [.ref pu, .ref pl])) pu wu top := fu.keep (fun o h => e3 _ _ (e2 _ _ h)) fun b _ o h => e3 _ _ (e2 _ _ h)
  have fl3 : FrL H (upd H2 a (.lst [.ref pu, .ref pl])) pl wl bot := by
    have f := fl.keep (fun o h => e3 _ _ h) fun b _ o h => e3 _ _ h
    exact ⟨f.at_, fresh0 e1 f.nw, paired_mono (fun _ _ q => jLI.mono (newOf_back e1) q) f.it, f.nd⟩
  have hd : ∀ b, V.ref b ∈ wu → b ≠ a ∧ b ≠ pl ∧ V.ref b ∉ wl := fun b hb => by
    have h3 := fu.some hb
    refine ⟨fun e => ?_, fun e => ?_, fun hm => h3 (fl.none hm)⟩
    · subst e
      exact h3 (fresh0 e2 ha)
    · subst e
      exact h3 fl.nw
  have hdl : V.ref a ∉ wl := fun hm => fl.some hm ha
  refine ⟨a, rfl, ⟨_, .inl (.inl upd_same)⟩, for_list (xs := [V.ref pu, V.ref pl]) (fun i σ' H' => (∃ c d, σ' = sg a0 a1 vx vt ve vs vq a7 a8 a9 a10 a11 a12 a13 a14 a15 c d) ∧ Ex H H' ∧ H' a = some (.lst [.ref pu, .ref pl]) ∧ (i = 0 → FrL H H' pu wu top) ∧ (i < 2 → FrL H H' pl wl bot))
    ⟨⟨_, _, rfl⟩, (e1.trans e2).trans e3, upd_same, fun _ => fu3, fun _ => fl3⟩ (fun i σ' H' hi p => ?_) (fun i w σ' H' hi p => ?_) (fun σ' H' p => ?_)⟩
  · exact .inl (.inl p.2.2.1)
  · obtain ⟨⟨c, d, rfl⟩, eH, pa, pu', pl'⟩ := p
    match i, hi with
    | 0, hi =>
      cases hi
      have f0 := pu' rfl
      have l0 := pl' (by decide)
      refine good_body (st := st) eH hx hq hs f0 hl hn hz hst hc fun u H' eH' kk => ⟨⟨_, _, rfl⟩, eH', kk a _ pa (fun hm => (hd a hm).1 rfl), (fun z => absurd z (by decide)), fun _ => l0.keep (fun o h => kk _ _ h fun hm => (hd _ hm).2.1 rfl) fun b hb o h => kk _ _ h fun hm => (hd b hm).2.2 hb⟩
    | 1, hi =>
      cases hi
      have l0 := pl' (by decide)
      refine good_body (st := st) eH hx hq hs l0 hl' hn hz' hst hc' fun u H' eH' kk => ⟨⟨_, _, rfl⟩, eH', kk a _ pa (fun hm => hdl hm), (fun z => absurd z (by decide)), fun z => absurd z (by decide)⟩
  · obtain ⟨⟨c, d, rfl⟩, eH, _⟩ := p
    exact k c d H' eH
end
end SL
end
section
set_option Elab.async false
set_option linter.all false
set_option maxRecDepth 100000
set_option maxHeartbeats 4000000
set_option autoImplicit false
namespace SL
open PySem PySem.Spec PyProof.Rows L2
section
variable {P : Program} {w : World} {K : PySem.W.Frag} {mg : Str → Option Value} {base : Heap} {C : Addr}

/-! ### the end of the law's good -/
theorem is_of {σ : L2.St} {H : Hp} {te : TE} {z z' : List (List Int)} (h : Ev te σ H (NuE (jLd jLI) H (fun r => r = z))) (e : z = z') : Ev te σ H (Is jLL z') := by
  subst e
  exact h.imp fun v H1 _ ⟨r, e, p⟩ => by subst e; exact jLL.mono newOf_ex (jLd_L p)
theorem is_of2 {σ : L2.St} {H : Hp} {te : TE} {z z' : List (List Int)} (h : Ev te σ H (NuE jLL H (fun r => r = z))) (e : z = z') : Ev te σ H (Is jLL z') := by
  subst e
  exact (nu1 h).is
theorem nu_of {σ : L2.St} {H : Hp} {te : TE} {z z' : List (List Int)} (h : Ev te σ H (NuE (jLd jLI) H (fun r => r = z))) (e : z = z') : Ev te σ H (Nu (jLd jLI) H z') := by
  subst e
  exact nu1 h
theorem sm_of {k : CX.Kd} {w : List Int} (hg : k.good) (hw : CX.Okk k w) (hc : CX.crK k w ≤ 60) : Sm w := by
  have h7 : k.n ≤ 7 := by
    obtain ⟨_, h⟩ := good_bnd hg
    have h2 : hiN k.nm ≤ 7 := by cases k.nm <;> decide
    omega
  obtain ⟨h1, h2⟩ := CX.small_of hg h7 hw hc
  refine ⟨by omega, fun v hv => ?_⟩
  have := h2 v hv
  omega
theorem sm_start {k : CX.Kd} (hg : k.good) : Sm k.start := sm_of hg CX.Okk.start (by rw [(CX.RedK.start hg).len]; decide)
theorem mid_top (k : CX.Kd) (w : List Int) (n : Nat) : ((CX.topK k w n).drop 1).take (n - 1) = List.replicate (n - 1) k.start := by
  show (List.replicate n k.start).take (n - 1) = _
  rw [List.take_replicate, show min (n - 1) n = n - 1 by omega]
theorem mid_bot (k : CX.Kd) (w : List Int) : ∀ n : Nat, ((CX.botK k w n).drop 1).take (n - 1) = List.replicate (n - 1) k.start
  | 0 => rfl
  | m + 1 => by
    show (List.replicate m k.start ++ [w]).take m = _
    rw [List.take_append_of_le_length (by rw [List.length_replicate]; omega), List.take_replicate, show min m m = m by omega]
    rfl
theorem mem_top {k : CX.Kd} {w x : List Int} {n : Nat} (h : x ∈ CX.topK k w n) : x = w ∨ x = k.start := by
  rcases List.mem_cons.mp h with e | e
  · exact .inl e
  · exact .inr (List.eq_of_mem_replicate e)
theorem mem_bot {k : CX.Kd} {w x : List Int} {n : Nat} (h : x ∈ CX.botK k w n) : x = w ∨ x = k.start := by
  rcases List.mem_append.mp h with e | e
  · exact .inr (List.eq_of_mem_replicate e)
  · exact .inl (List.mem_singleton.mp e)
theorem good_end {H : Hp} {k : CX.Kd} {w : List Int} {xs : List (List Int)} {n : Nat} {D : Ends} {a0 a1 a7 a8 a9 a10 a11 a12 a13 a14 a15 c16 c17 : Option V} {vx vt ve vs vq : V} (hg : k.good) (hX : preX k xs) (okw : CX.Okk k w) (hcw : CX.crK k w ≤ 60) (hn : n ≤ 4)
    (q6 : CX.topK k (CX.wholeK k xs) (xs.length - 1) = CX.topK k w n) (q7 : CX.botK k (CX.wholeK k xs) (xs.length - 1) = CX.botK k w n)
    (ht : (jK C).r H vt k) (hx : jLL.r H vx xs) (hq : jLL.r H vq xs) (hs : jLL.r H vs (List.replicate n k.start)) (he : jLI.r H ve w) (q : ∀ H', Ex H H' → D.rt (.bl true) H') :
    tSeq (tFor (iList K (tLst (tCons (tCall (spUp C) [] E0 (tCons (tVar 3) (tCons (tVar 2) tNil))) (tCons (tCall (spLo C) [] E0 (tCons (tVar 3) (tCons (tVar 2) tNil))) tNil)))) (gName 16) (goodBody K))
      (tRet (tAndV (tOp (rEqD K) (tCall (spUp C) [] E0 (tCons (tVar 3) (tCons (tVar 2) tNil))) (tOp rCat (tLst (tCons (tVar 4) tNil)) (tVar 5))) (tOp (rEqD K) (tCall (spLo C) [] E0 (tCons (tVar 3) (tCons (tVar 2) tNil))) (tOp rCat (tVar 5) (tLst (tCons (tVar 4) tNil))))))
      D (sg a0 a1 vx vt ve vs vq a7 a8 a9 a10 a11 a12 a13 a14 a15 c16 c17) H := by
  have lrep : (List.replicate n k.start).length = n := List.length_replicate
  have smw := sm_of hg okw hcw
  have sms := sm_start hg
  refine good_loop (st := k.start) (n := n) (top := CX.topK k w n) (bot := CX.botK k w n) hx hq hs hn sms (nu_of (ev_c2 (x := k) (y := xs) (ev_var rfl ht) (ev_var rfl hx) hX) q6) (fun H1 e => nu_of (ev_c2 (x := k) (y := xs) (ev_var rfl ((jK C).mono e ht)) (ev_var rfl (jLL.mono e hx)) hX) q7)
    (CX.len_top n) (fun x hx => by rcases mem_top hx with e | e <;> rw [e] <;> assumption) (mid_top k w n) (CX.len_bot n) (fun x hx => by rcases mem_bot hx with e | e <;> rw [e] <;> assumption) (mid_bot k w n) fun c d H1 e1 => ?_
  have ht1 := (jK C).mono e1 ht
  have hx1 := jLL.mono e1 hx
  have hs1 := jLL.mono e1 hs
  have he1 := jLI.mono e1 he
  refine s_ret (P := Eqv (.bl true)) (ev_and (a := true) (b := true)
    ((ev_eqD (encL encLI) (is_of (ev_c2 (x := k) (y := xs) (ev_var rfl ht1) (ev_var rfl hx1) hX) q6) (ev_catI (xs := [w]) (ev_oneI (ev_var rfl he1)) (ev_var rfl hs1) (by rw [lrep]; show 1 + n ≤ _; omega))).eq (congrArg V.bl (decide_eq_true rfl))) fun _ =>
    (ev_eqD (encL encLI) (is_of (ev_c2 (x := k) (y := xs) (ev_var rfl ht1) (ev_var rfl hx1) hX) q7) (ev_catI (ys := [w]) (ev_var rfl hs1) (ev_oneI (ev_var rfl he1)) (by rw [lrep]; show n + 1 ≤ _; omega))).eq (congrArg V.bl (decide_eq_true rfl))) fun v H2 e2 p2 => ?_
  cases p2
  exact q H2 (e1.trans e2)
/-! ### the comparisons -/
theorem ne_same {σ : L2.St} {H : Hp} {ta tb : TE} {x : List (List Int)} (ha : Ev ta σ H (Is jLL x)) (hb : Ev tb σ H (Is jLL x)) : EvT (tTest (tOp (rNeD K) ta tb)) σ H false :=
  (et_test (ev_neD (encL encLI) ha hb)).eq (by rw [decide_eq_true rfl]; rfl)
theorem or_no {σ : L2.St} {H : Hp} {tt tu : TT} (h1 : EvT tt σ H false) (h2 : EvT tu σ H false) : EvT (tOr tt tu) σ H false := et_or (a := false) (b := false) h1 fun _ => h2
section
variable {σ : L2.St} {H : Hp} {k : CX.Kd} {w : List Int} {xs ys : List (List Int)} {n : Nat} {vt va vh vl vb ve vs : V}
theorem chk0 (h4 : σ[4]? = some (some ve)) (h5 : σ[5]? = some (some vs)) (h9 : σ[9]? = some (some vh)) (h10 : σ[10]? = some (some vl)) (he : jLI.r H ve w) (hs : jLL.r H vs (List.replicate n k.start)) (hn : n ≤ 4) (hh : jLL.r H vh (CX.topK k w n)) (hl : jLL.r H vl (CX.botK k w n)) :
    EvT (tOr (tTest (tOp (rNeD K) (tVar 9) (tOp rCat (tLst (tCons (tVar 4) tNil)) (tVar 5)))) (tTest (tOp (rNeD K) (tVar 10) (tOp rCat (tVar 5) (tLst (tCons (tVar 4) tNil)))))) σ H false := by
  have lrep : (List.replicate n k.start).length = n := List.length_replicate
  exact or_no (ne_same (ev_var h9 hh) (ev_catI (xs := [w]) (ev_oneI (ev_var h4 he)) (ev_var h5 hs) (by rw [lrep]; show 1 + n ≤ _; omega)))
    (ne_same (ev_var h10 hl) (ev_catI (ys := [w]) (ev_var h5 hs) (ev_oneI (ev_var h4 he)) (by rw [lrep]; show n + 1 ≤ _; omega)))
theorem chk1 (h3 : σ[3]? = some (some vt)) (h9 : σ[9]? = some (some vh)) (h10 : σ[10]? = some (some vl)) (h11 : σ[11]? = some (some va)) (ht : (jK C).r H vt k) (ha : jLL.r H va ys) (hh : jLL.r H vh (CX.topK k w n)) (hl : jLL.r H vl (CX.botK k w n)) (hY : preX k ys) (hbot : preX k (CX.botK k w n))
    (q1 : CX.topK k (CX.wholeK k ys) (ys.length - 1) = CX.topK k w n) (q2 : CX.botK k (CX.wholeK k ys) (ys.length - 1) = CX.botK k w n) (q3 : CX.topK k (CX.wholeK k (CX.botK k w n)) ((CX.botK k w n).length - 1) = CX.topK k w n) :
    EvT (tOr (tTest (tOp (rNeD K) (tCallK (spUp C) gKV E0 tNil (tCons (tVar 11) (tCons (tVar 3) tNil))) (tVar 9))) (tOr (tTest (tOp (rNeD K) (tCallK (spLo C) gKV E0 tNil (tCons (tVar 11) (tCons (tVar 3) tNil))) (tVar 10))) (tTest (tOp (rNeD K) (tCall (spUp C) [] E0 (tCons (tVar 3) (tCons (tVar 10) tNil))) (tVar 9))))) σ H false :=
  or_no (ne_same (is_of (ev_ck2 (x := k) (y := ys) (ev_var h11 ha) (ev_var h3 ht) hY) q1) (ev_var h9 hh)) (or_no (ne_same (is_of (ev_ck2 (x := k) (y := ys) (ev_var h11 ha) (ev_var h3 ht) hY) q2) (ev_var h10 hl)) (ne_same (is_of (ev_c2 (x := k) (y := CX.botK k w n) (ev_var h3 ht) (ev_var h10 hl) hbot) q3) (ev_var h9 hh)))
theorem chk2 (hg : k.good) (okw : CX.Okk k w) (h3 : σ[3]? = some (some vt)) (h9 : σ[9]? = some (some vh)) (h10 : σ[10]? = some (some vl)) (h13 : σ[13]? = some (some vb)) (ht : (jK C).r H vt k) (hb : jLL.r H vb (CX.turnK k xs)) (hh : jLL.r H vh (CX.topK k w n)) (hl : jLL.r H vl (CX.botK k w n))
    (htop : preX k (CX.topK k w n)) (hbot : preX k (CX.botK k w n)) (htur : preX k (CX.turnK k xs))
    (q4 : CX.topK k (CX.wholeK k (CX.turnK k xs)) ((CX.turnK k xs).length - 1) = CX.topK k (CX.oppK k w) n) (q5 : CX.botK k (CX.wholeK k (CX.turnK k xs)) ((CX.turnK k xs).length - 1) = CX.botK k (CX.oppK k w) n) :
    EvT (tOr (tTest (tOp (rNeD K) (tCall (spUp C) [] E0 (tCons (tVar 3) (tCons (tVar 13) tNil))) (tCall (spTd C) [] E0 (tCons (tVar 3) (tCons (tVar 10) tNil))))) (tOr (tTest (tOp (rNeD K) (tCall (spLo C) [] E0 (tCons (tVar 3) (tCons (tVar 13) tNil))) (tCall (spTd C) [] E0 (tCons (tVar 3) (tCons (tVar 9) tNil)))))
      (tTest (tOp (fun x y H Q => ∃ a b, x = .bl a ∧ y = .bl b ∧ Q (.bl (!decide (a = b))) H) (tCall (spJd C) [] E0 (tCons (tVar 3) (tCons (tVar 9) (tCons (tVar 10) tNil)))) (tC (.bl true)))))) σ H false :=
  or_no (ne_same (is_of (ev_c2 (x := k) (y := CX.turnK k xs) (ev_var h3 ht) (ev_var h13 hb) htur) q4) (is_of2 (ev_c2 (x := k) (y := CX.botK k w n) (ev_var h3 ht) (ev_var h10 hl) hbot) (CX.turn_bot hg w n)))
    (or_no (ne_same (is_of (ev_c2 (x := k) (y := CX.turnK k xs) (ev_var h3 ht) (ev_var h13 hb) htur) q5) (is_of2 (ev_c2 (x := k) (y := CX.topK k w n) (ev_var h3 ht) (ev_var h9 hh) htop) (CX.turn_top hg w n)))
    (et_isnotT (b := true) ((nuB (ev_c3 (x := k) (y := CX.topK k w n) (z := CX.botK k w n) (ev_var h3 ht) (ev_var h9 hh) (ev_var h10 hl) ⟨htop, hbot, by rw [CX.len_top, CX.len_bot]⟩)).eq (congrArg V.bl (decide_eq_true (by rw [CX.whole_top hg okw, CX.whole_bot hg okw]))))))
theorem chk3 (hg : k.good) (okw : CX.Okk k w) (h3 : σ[3]? = some (some vt)) (h9 : σ[9]? = some (some vh)) (h10 : σ[10]? = some (some vl)) (h15 : σ[15]? = some (some (V.int ((2 * n * CX.crK k w : Nat) : Int)))) (ht : (jK C).r H vt k) (hh : jLL.r H vh (CX.topK k w n)) (hl : jLL.r H vl (CX.botK k w n))
    (htop : preX k (CX.topK k w n)) (hbot : preX k (CX.botK k w n)) :
    EvT (tTest (tOp (rNeD K) (tLst (tCons (tCall (spFa C) [] E0 (tCons (tVar 3) (tCons (tVar 10) tNil))) (tCons (tCall (spFb C) [] E0 (tCons (tVar 3) (tCons (tVar 9) tNil))) (tCons (tCall (spFa C) [] E0 (tCons (tVar 3) (tCons (tVar 9) tNil))) (tCons (tCall (spFb C) [] E0 (tCons (tVar 3) (tCons (tVar 10) tNil))) tNil)))))
      (tLst (tCons (tVar 15) (tCons (tVar 15) (tCons (tC (.int 0)) (tCons (tC (.int 0)) tNil))))))) σ H false := by
  have f1 : CX.htK k (CX.botK k w n) = 2 * n * CX.crK k w := CX.ht_bot hg okw n
  have f2 : CX.htK k (CX.turnK k (CX.topK k w n)) = 2 * n * CX.crK k w := by rw [CX.turn_top hg, CX.ht_bot hg (okw.opp hg), CX.cr_opp hg okw]
  have f3 : CX.htK k (CX.topK k w n) = 0 := CX.ht_top hg okw n
  have f4 : CX.htK k (CX.turnK k (CX.botK k w n)) = 0 := by rw [CX.turn_bot hg, CX.ht_top hg (okw.opp hg)]
  refine (et_test (ev_neD encLI (x := [((2 * n * CX.crK k w : Nat) : Int), ((2 * n * CX.crK k w : Nat) : Int), 0, 0]) (y := [((2 * n * CX.crK k w : Nat) : Int), ((2 * n * CX.crK k w : Nat) : Int), 0, 0]) (ev_fourI ((nuN (ev_c2 (x := k) (y := CX.botK k w n) (ev_var h3 ht) (ev_var h10 hl) hbot)).eq (by rw [f1])) ((nuN (ev_c2 (x := k) (y := CX.topK k w n) (ev_var h3 ht) (ev_var h9 hh) htop)).eq (by rw [f2])) ((nuN (ev_c2 (x := k) (y := CX.topK k w n) (ev_var h3 ht) (ev_var h9 hh) htop)).eq (by rw [f3]; rfl)) ((nuN (ev_c2 (x := k) (y := CX.botK k w n) (ev_var h3 ht) (ev_var h10 hl) hbot)).eq (by rw [f4]; rfl))) (ev_fourI (ev_v h15) (ev_v h15) ev_c ev_c))).eq (by rw [decide_eq_true rfl]; rfl)
end
end
end SL
end
section
set_option Elab.async false
set_option linter.all false
set_option maxRecDepth 100000
set_option maxHeartbeats 4000000
set_option autoImplicit false
namespace SL
open PySem PySem.Spec PyProof.Rows L2
section
variable {P : Program} {w : World} {K : PySem.W.Frag} {mg : Str → Option Value} {base : Heap} {C : Addr}

/-! ### the law's good -/
theorem std_of {k : CX.Kd} {xs : List (List Int)} (hg : k.good) (h1 : 1 ≤ xs.length) (h5 : xs.length ≤ 5) (h : ∀ x, x ∈ xs → CX.Okk k x ∧ CX.crK k x ≤ 4) : CX.StdK k xs := by
  refine ⟨fun e => by rw [e] at h1; exact absurd h1 (by decide), by omega, fun x hx => (h x hx).1, ?_⟩
  have h2 := CX.len_whole_le (S := CX.sysK k hg) 4 (xs := xs) (fun x hx => (h x hx).1) (fun x hx => (h x hx).2)
  rw [CX.wholeK_eq hg]
  have h3 : CX.crK k (CX.whole (CX.sysK k hg) xs) ≤ 4 * xs.length := h2
  omega
theorem sel_rev (i : Nat) (b : Bool) (ds : List CX.Deed) : CX.sel i b ds.reverse = (CX.sel i b ds).reverse := by
  unfold CX.sel
  rw [List.filter_reverse, List.map_reverse]
theorem seams_of {k : CX.Kd} {w : List Int} {n : Nat} {b : List CX.Deed} (hg : k.good) (ok : CX.Okk k w) (hc : CX.crK k w ≤ 60) (hn : n ≤ 4) (h : CX.UpK k (CX.botK k w n) b) : SeamsOk k w b.reverse (n + 1) := by
  refine ⟨hg, ok, hc, by omega, by omega, fun i hi sd => ?_, ?_⟩
  · obtain ⟨h1, h2, h3⟩ := CX.up_right hg ok h i (by omega) sd
    rw [sel_rev, List.length_reverse, List.reverse_reverse]
    exact ⟨h1, h2, fun s hs => h3 s (List.mem_reverse.mp hs)⟩
  · rw [List.length_reverse, h.2, CX.ht_bot hg ok, Nat.add_sub_cancel, Nat.mul_right_comm]
theorem way_seams {k : CX.Kd} {w : List Int} {n : Nat} {r : List CX.Deed} (hg : k.good) (ok : CX.Okk k w) (hc : CX.crK k w ≤ 60) (hn : n ≤ 4) (h : postW k (CX.topK k w n) (CX.botK k w n) r) : SeamsOk k w r (n + 1) := by
  obtain ⟨a, b, ha, hb, he⟩ := h
  have e1 := CX.up_top hg ok ha
  subst e1
  have e2 := he (by rw [CX.turn_top hg, CX.turn_bot hg, CX.ht_top hg ok, CX.ht_bot hg ok, CX.ht_bot hg (ok.opp hg), CX.ht_top hg (ok.opp hg), CX.cr_opp hg ok]; omega)
  rw [e2, List.nil_append]
  exact seams_of hg ok hc hn hb
section
variable {σ : L2.St} {H : Hp} {k : CX.Kd} {w : List Int} {xs : List (List Int)} {n : Nat} {vt vk vx vh vl ve vL : V} {la lb : List CX.Deed}
theorem ev_lines (hg : k.good) (okw : CX.Okk k w) (hc : CX.crK k w ≤ 60) (hn : n ≤ 4) (h3 : σ[3]? = some (some vt)) (h9 : σ[9]? = some (some vh)) (h10 : σ[10]? = some (some vl)) (ht : (jK C).r H vt k) (hh : jLL.r H vh (CX.topK k w n)) (hl : jLL.r H vl (CX.botK k w n)) (htop : preX k (CX.topK k w n)) (hbot : preX k (CX.botK k w n)) :
    Ev (tLst (tCons (tCall (spWa C) [] E0 (tCons (tVar 3) (tCons (tVar 9) (tCons (tVar 10) tNil)))) (tCons (tRevL K (tCall (spWu C) [] E0 (tCons (tVar 3) (tCons (tVar 10) tNil)))) tNil))) σ H (NuE (jL (jL jD)) H (fun r => ∃ a b, SeamsOk k w a (n + 1) ∧ SeamsOk k w b (n + 1) ∧ r = [a, b])) :=
  Ev.imp (ev_twoE (R := jL jD) (ev_c3 (x := k) (y := CX.topK k w n) (z := CX.botK k w n) (ev_var h3 ht) (ev_var h9 hh) (ev_var h10 hl) ⟨⟨htop, hbot, by rw [CX.len_top, CX.len_bot]⟩, by rw [CX.whole_top hg okw, CX.whole_bot hg okw]⟩) (ev_revE (ev_c2 (x := k) (y := CX.botK k w n) (ev_var h3 ht) (ev_var h10 hl) hbot))) fun v H1 _ p => p.imp fun r ⟨a, b, pa, pb, e⟩ => ⟨a, b, way_seams hg okw hc hn pa, by obtain ⟨c, hc', rfl⟩ := pb; exact seams_of hg okw hc hn hc', e⟩
theorem wipe_one (σ : L2.St) (j : Nat) (x : V) : wipe ((wipe σ [j]).set j (some x)) [j] = wipe σ [j] := by
  show ((σ.set j none).set j (some x)).set j none = σ.set j none
  rw [List.set_set, List.set_set]
theorem look_one {i j : Nat} {x : V} {u : Option V} (hi : j ≠ i) (h : σ[i]? = some u) : ((wipe σ [j]).set j (some x))[i]? = some u := by
  show ((σ.set j none).set j (some x))[i]? = some u
  rw [List.getElem?_set_ne hi, List.getElem?_set_ne hi, h]
theorem look_same {j : Nat} {x : V} {u : Option V} (h : σ[j]? = some u) : ((wipe σ [j]).set j (some x))[j]? = some (some x) := by
  show ((σ.set j none).set j (some x))[j]? = some (some x)
  rw [List.set_set, List.getElem?_set_self (List.getElem?_eq_some_iff.mp h).1]
theorem chk_lines {u12 : Option V} (h14 : σ[14]? = some (some vL)) (h1 : σ[1]? = some (some vk)) (h2 : σ[2]? = some (some vx)) (h4 : σ[4]? = some (some ve)) (h12 : σ[12]? = some u12)
    (hL : (jL (jL jD)).r H vL [la, lb]) (hk : jT.r H vk k) (he : jLI.r H ve w) (hx : jLL.r H vx xs) (hxl : xs.length = n + 1) (sa : SeamsOk k w la (n + 1)) (sb : SeamsOk k w lb (n + 1)) :
    EvT (tTest (tOp (rNeD K) (tLc (iList K (tVar 14)) (gName 12) (tNot (tB (tCall spLSeam [] E0 (tCons (tVar 1) (tCons (tVar 4) (tCons (tVar 12) (tCons (tCB (rLen' K) (tCons (tVar 2) tNil)) tNil))))))) (tVar 12) [12]) (tLst tNil))) σ H false :=
  (et_neN (encL encD) (xs := (([la, lb].filter (fun _ => false)).map (fun x => x))) (Ev.is (ev_lc (R := jL jD) (S := jL jD) (fun _ => false) (fun x => x) (ev_var h14 hL) (by show 2 ≤ 40000; decide) (fun x => wipe_one σ 12 x) (fun i x v H3 e3 hxi rx => et_not (a := true) (et_B (nuB (ev_c4 (x := k) (y := w) (z := x) (t := n + 1) (ev_var (look_one (by decide) h1) (jT.mono e3 hk)) (ev_var (look_one (by decide) h4) (jLI.mono e3 he)) (ev_var (look_same h12) rx) (isNt' (ev_lenL (fun p ys H Q h q => ⟨p, ys, rfl, .inl h, q⟩) (ev_var (look_one (by decide) h2) (jLL.mono e3 hx))) (congrArg Nat.cast hxl)) (by
    have hm := List.mem_of_getElem? hxi
    rcases List.mem_cons.mp hm with e | e
    · rw [e]; exact sa
    · rw [List.mem_singleton.mp e]; exact sb))))) (fun i x v H3 e3 hxi rx hf => nomatch hf)))).eq (by rw [filter_none]; rfl)
theorem ev_far (hg : k.good) (okw : CX.Okk k w) (hc : CX.crK k w ≤ 60) (hxl : xs.length = n + 1) (hn : n ≤ 4) (h1 : σ[1]? = some (some vk)) (h2 : σ[2]? = some (some vx)) (h4 : σ[4]? = some (some ve)) (hk : jT.r H vk k) (he : jLI.r H ve w) (hx : jLL.r H vx xs) :
    Ev (tOp (rI CMul fun i j => .int (i * j)) (tOp (rI CMul fun i j => .int (i * j)) (tC (.int 2)) (tCB (rLen' K) (tCons (tCall spLRow [] E0 (tCons (tVar 1) (tCons (tVar 4) tNil))) tNil))) (tOp (rI0 fun i j => .int (i - j)) (tCB (rLen' K) (tCons (tVar 2) tNil)) (tC (.int 1)))) σ H (Eqv (.int ((2 * n * CX.crK k w : Nat) : Int))) := by
  have hm1 : CMul 2 (CX.crK k w : Int) := .inl (by decide)
  have hm2 : CMul (2 * (CX.crK k w : Int)) ((xs.length : Int) - 1) := .inr ⟨by omega, by omega⟩
  refine Ev.eq (v := .int (2 * (CX.crK k w : Int) * ((xs.length : Int) - 1))) (ev_i (ev_i ev_c (ev_lenE (fun p ys H Q h q => ⟨p, ys, rfl, .inl h, q⟩) (ev_c2 (x := k) (y := w) (ev_var h1 hk) (ev_var h4 he) ⟨hg, okw, by omega⟩) (fun r hr1 => (show CX.RedK k r w from hr1).len.symm)) hm1) (ev_i0 (ev_lenL (fun p ys H Q h q => ⟨p, ys, rfl, .inl h, q⟩) (ev_var h2 hx)) ev_c) hm2) (congrArg V.int (by rw [show (xs.length : Int) - 1 = (n : Int) by omega, Nat.mul_right_comm]; simp))
end
abbrev spGood : Sp := fun vs H Q _ => ∃ (g : Addr) (m : Int), vs = [.ref g] ∧ m ≤ 1000000 ∧ Gen g m H ∧ ∀ H', ExG g H H' → Q (.bl true) H'
theorem c__law_good (T : Tp K mg C) (D : Dfn K mg "_law_good" s__law_good) (M : Mkr P w K mg base C 4) (D_uppermost : Dfn K mg "uppermost" s_uppermost) (D_lowermost : Dfn K mg "lowermost" s_lowermost)
    (c__law_kind : Cal P w K mg base 3 "_law_kind" p__law_kind spLKind) (c__law_random : Cal P w K mg base 2 "_law_random" p__law_random spRnd) (c__law_standing : Cal P w K mg base 4 "_law_standing" p__law_standing spLStand)
    (c__law_wholes : Cal P w K mg base 5 "_law_wholes" p__law_wholes spLWholes) (c__law_start : Cal P w K mg base 1 "_law_start" p__law_start spLStart) (c__law_walked : Cal P w K mg base 7 "_law_walked" p__law_walked spLWalk)
    (c__law_each_seam_right : Cal P w K mg base 4 "_law_each_seam_right" p__law_each_seam_right spLSeam) (c__law_row : Cal P w K mg base 3 "_law_row" p__law_row spLRow)
    (c_uppermost : Cal P w K mg base 10 "uppermost" p_uppermost (spUp C)) (c_lowermost : Cal P w K mg base 10 "lowermost" p_lowermost (spLo C)) (c_turned : Cal P w K mg base 10 "turned" p_turned (spTd C)) (c_joined : Cal P w K mg base 11 "joined" p_joined (spJd C)) (c_way : Cal P w K mg base 11 "way" p_way (spWa C)) (c_way_up : Cal P w K mg base 10 "way_up" p_way_up (spWu C)) (c_far_above : Cal P w K mg base 10 "far_above" p_far_above (spFa C)) (c_far_below : Cal P w K mg base 10 "far_below" p_far_below (spFb C)) : CalG P w K mg base 12 "_law_good" p__law_good spGood := by
  refine calG_mk D sc__law_good (fun _ _ _ _ h => by obtain ⟨_, _, rfl, _⟩ := h; rfl) (fun _ _ _ _ _ _ us hl => match us, hl with | [_], _ => rfl) (fun f cdv A outer s H vs Q E hgd hr h => ?_)
  obtain ⟨g, m, rfl, hm, hg, q⟩ := h
  refine ⟨_, (pss_cons (ps_set (i := 1) sc__law_good.nd rfl (.inr rfl) (pe_cal c__law_kind (hr.mono (by decide)) (by rfl) (pa_cons (pv 0) (pa_cons pe_bl pa_nil))))
      (pss_cons (ps_set (i := 2) sc__law_good.nd rfl (.inr rfl) (pe_cal c__law_standing (hr.mono (by decide)) (by rfl) (pa_cons (pv 0) (pa_cons (pv 1) (pa_cons (pe_op op_add pe_int (pe_cal c__law_random (hr.mono (by decide)) (by rfl) (pa_cons (pv 0) (pa_cons pe_int pa_nil)))) (pa_cons pe_int pa_nil))))))
      (pss_cons (ps_asg (pe_tup (pa_cons (pe_kind M (hr.mono (by decide)) (by rfl) T.mgC (pa_cons (pe_ix ix_tup (pv 1) pe_int (fun _ _ => rfl)) (pa_cons (pe_ix ix_tup (pv 1) pe_int (fun _ _ => rfl)) pa_nil))) (pa_cons (pe_ix ix_list (pe_cal c__law_wholes (hr.mono (by decide)) (by rfl) (pa_cons (pv 1) (pa_cons (pv 2) pa_nil))) pe_int (fun _ _ => rfl)) pa_nil))) (pg_tup rfl (pgs_cons (pg_name (i := 3) sc__law_good.nd rfl (.inl rfl)) (pgs_cons (pg_name (i := 4) sc__law_good.nd rfl (.inr rfl)) pgs_nil))))
      (pss_cons (ps_par (i := 5) (j := 6) (by rfl) sc__law_good.nd rfl rfl (by decide) rfl rfl (pa_cons (pe_lc (own := [("_law_layer", 7)]) (by rfl) sc__law_good.nd (pi_list (pe_slice sl_list (pv 2) (po_some pe_int) po_none)) (blkOk_by (own := [("_law_layer", 7)]) (N := N__law_good) (sc := defScope s__law_good) (by decide +kernel)) (fun _ _ _ _ _ => (pg_name (i := 7) sc__law_good.nd rfl (.inl rfl))) (fun _ _ _ _ _ => pts_nil) (fun _ _ _ _ _ => (pe_cal c__law_start (hr.mono (by decide)) (by rfl) (pa_cons (pv 1) pa_nil)))) (pa_cons (pe_lc (own := [("_law_order_here", 8)]) (by rfl) sc__law_good.nd (pi_list (pv 2)) (blkOk_by (own := [("_law_order_here", 8)]) (N := N__law_good) (sc := defScope s__law_good) (by decide +kernel)) (fun _ _ _ _ _ => (pg_name (i := 8) sc__law_good.nd rfl (.inl rfl))) (fun _ _ _ _ _ => pts_nil) (fun _ _ _ _ _ => (pe_callTy (call_lisK (K := K) rfl) (by rfl) T.list (by decide +kernel) (pa_cons (pv 8) pa_nil)))) pa_nil)) (by rfl))
      (pss_cons (ps_par (i := 9) (j := 10) (by rfl) sc__law_good.nd rfl rfl (by decide) rfl rfl (pa_cons (pe_cal c_uppermost (hr.mono (by decide)) (by rfl) (pa_cons (pv 3) (pa_cons (pv 2) pa_nil))) (pa_cons (pe_cal c_lowermost (hr.mono (by decide)) (by rfl) (pa_cons (pv 3) (pa_cons (pv 2) pa_nil))) pa_nil)) (by rfl))
      (pss_cons (ps_if (PW.pt (pw_or (pt_cmpR (op_neD hr.units) (pv 9) (pe_op op_cat (pe_lst (pa_cons (pv 4) pa_nil)) (pv 5)) (nomark _)) (pw_or1 (pt_cmpR (op_neD hr.units) (pv 10) (pe_op op_cat (pv 5) (pe_lst (pa_cons (pv 4) pa_nil))) (nomark _))))) (pss_one (ps_ret pe_bl)) pss_nil)
      (pss_cons (ps_asg (pe_cal c__law_walked (hr.mono (by decide)) (by rfl) (pa_cons (pv 0) (pa_cons (pv 1) (pa_cons (pv 2) (pa_cons (pe_cal c__law_random (hr.mono (by decide)) (by rfl) (pa_cons (pv 0) (pa_cons pe_int pa_nil))) pa_nil))))) (pg_tup rfl (pgs_cons (pg_name (i := 11) sc__law_good.nd rfl (.inl rfl)) (pgs_cons (pg_name (i := 12) sc__law_good.nd rfl (.inl rfl)) pgs_nil))))
      (pss_cons (ps_if (PW.pt (pw_or (pt_cmpR (op_neD hr.units) (pe_calK0 (ks := ["standing", "kind"]) (g := gK) (gV := gKV) c_uppermost D_uppermost (fun _ _ _ _ _ _ us ws hl => by obtain ⟨a, b, rfl, rfl⟩ := gK_two hl; rfl) gK_rel (hr.mono (by decide)) (by rfl) (pk_cons (pv 11) (pk_cons (pv 3) pk_nil))) (pv 9) (nomark _)) (pw_or (pt_cmpR (op_neD hr.units) (pe_calK0 (ks := ["standing", "kind"]) (g := gK) (gV := gKV) c_lowermost D_lowermost (fun _ _ _ _ _ _ us ws hl => by obtain ⟨a, b, rfl, rfl⟩ := gK_two hl; rfl) gK_rel (hr.mono (by decide)) (by rfl) (pk_cons (pv 11) (pk_cons (pv 3) pk_nil))) (pv 10) (nomark _)) (pw_or1 (pt_cmpR (op_neD hr.units) (pe_cal c_uppermost (hr.mono (by decide)) (by rfl) (pa_cons (pv 3) (pa_cons (pv 10) pa_nil))) (pv 9) (nomark _)))))) (pss_one (ps_ret pe_bl)) pss_nil)
      (pss_cons (ps_set (i := 13) sc__law_good.nd rfl (.inl rfl) (pe_cal c_turned (hr.mono (by decide)) (by rfl) (pa_cons (pv 3) (pa_cons (pv 2) pa_nil))))
      (pss_cons (ps_if (PW.pt (pw_or (pt_cmpR (op_neD hr.units) (pe_cal c_uppermost (hr.mono (by decide)) (by rfl) (pa_cons (pv 3) (pa_cons (pv 13) pa_nil))) (pe_cal c_turned (hr.mono (by decide)) (by rfl) (pa_cons (pv 3) (pa_cons (pv 10) pa_nil))) (nomark _)) (pw_or (pt_cmpR (op_neD hr.units) (pe_cal c_lowermost (hr.mono (by decide)) (by rfl) (pa_cons (pv 3) (pa_cons (pv 13) pa_nil))) (pe_cal c_turned (hr.mono (by decide)) (by rfl) (pa_cons (pv 3) (pa_cons (pv 9) pa_nil))) (nomark _)) (pw_or1 (pt_cmpR op_isnot_bl (pe_cal c_joined (hr.mono (by decide)) (by rfl) (pa_cons (pv 3) (pa_cons (pv 9) (pa_cons (pv 10) pa_nil)))) pe_bl (nomark _)))))) (pss_one (ps_ret pe_bl)) pss_nil)
      (pss_cons (ps_set (i := 14) sc__law_good.nd rfl (.inl rfl) (pe_lst (pa_cons (pe_cal c_way (hr.mono (by decide)) (by rfl) (pa_cons (pv 3) (pa_cons (pv 9) (pa_cons (pv 10) pa_nil)))) (pa_cons (pe_revL (pe_cal c_way_up (hr.mono (by decide)) (by rfl) (pa_cons (pv 3) (pa_cons (pv 10) pa_nil)))) pa_nil))))
      (pss_cons (ps_if (pt_cmpR (op_neD hr.units) (pe_lc (own := [("_law_line", 12)]) (by rfl) sc__law_good.nd (pi_list (pv 14)) (blkOk_by (own := [("_law_line", 12)]) (N := N__law_good) (sc := defScope s__law_good) (by decide +kernel)) (fun _ _ _ _ _ => (pg_name (i := 12) sc__law_good.nd rfl (.inl rfl))) (fun _ _ _ _ _ => pts_one (pt_not (pt_val (pe_cal c__law_each_seam_right (hr.mono (by decide)) (by rfl) (pa_cons (pv 1) (pa_cons (pv 4) (pa_cons (pv 12) (pa_cons (pe_callB (call_lenK (K := K) rfl) (by rfl) T.len (by decide +kernel) (pa_cons (pv 2) pa_nil)) pa_nil)))))))) (fun _ _ _ _ _ => (pv 12))) (pe_lst pa_nil) (nomark _)) (pss_one (ps_ret pe_bl)) pss_nil)
      (pss_cons (ps_set (i := 15) sc__law_good.nd rfl (.inl rfl) (pe_op op_mul (pe_op op_mul pe_int (pe_callB call_len_seq (by rfl) T.len (by decide +kernel) (pa_cons (pe_cal c__law_row (hr.mono (by decide)) (by rfl) (pa_cons (pv 1) (pa_cons (pv 4) pa_nil))) pa_nil))) (pe_op op_sub (pe_callB call_len_seq (by rfl) T.len (by decide +kernel) (pa_cons (pv 2) pa_nil)) pe_int)))
      (pss_cons (ps_if (pt_cmpR (op_neD hr.units) (pe_lst (pa_cons (pe_cal c_far_above (hr.mono (by decide)) (by rfl) (pa_cons (pv 3) (pa_cons (pv 10) pa_nil))) (pa_cons (pe_cal c_far_below (hr.mono (by decide)) (by rfl) (pa_cons (pv 3) (pa_cons (pv 9) pa_nil))) (pa_cons (pe_cal c_far_above (hr.mono (by decide)) (by rfl) (pa_cons (pv 3) (pa_cons (pv 9) pa_nil))) (pa_cons (pe_cal c_far_below (hr.mono (by decide)) (by rfl) (pa_cons (pv 3) (pa_cons (pv 10) pa_nil))) pa_nil))))) (pe_lst (pa_cons (pv 15) (pa_cons (pv 15) (pa_cons pe_int (pa_cons pe_int pa_nil))))) (nomark _)) (pss_one (ps_ret pe_bl)) pss_nil)
      (pss_cons (ps_for PassesOwn.never rfl (pi_list (pe_lst (pa_cons (pe_cal c_uppermost (hr.mono (by decide)) (by rfl) (pa_cons (pv 3) (pa_cons (pv 2) pa_nil))) (pa_cons (pe_cal c_lowermost (hr.mono (by decide)) (by rfl) (pa_cons (pv 3) (pa_cons (pv 2) pa_nil))) pa_nil)))) (pg_name (i := 16) sc__law_good.nd rfl (.inl rfl)) (pss_cons (ps_set (i := 17) sc__law_good.nd rfl (.inl rfl) (pe_callB (call_reprD hgd hr.units) (by rfl) T.repr (by decide +kernel) (pa_cons (pe_slice sl_list (pv 16) (po_some pe_int) po_none) pa_nil)))
      (pss_cons (ps_expr (pe_bm PySem.F.plainAttrs_list PySem.F.slot_list_append PySem.F.type_list_append mt_append (pe_ix ix_list (pv 16) pe_int (fun _ _ => rfl)) (pa_cons pe_non pa_nil)))
      (pss_cons (ps_if (PW.pt (pw_or (pt_cmpR op_ne (pe_callB (call_reprD hgd hr.units) (by rfl) T.repr (by decide +kernel) (pa_cons (pe_slice sl_list (pv 16) (po_some pe_int) po_none) pa_nil)) (pv 17) (nomark _)) (pw_or1 (pt_cmpR (op_neD hr.units) (pv 2) (pv 6) (nomark _))))) (pss_one (ps_ret pe_bl)) pss_nil)
      (pss_cons (ps_expr (pe_bm PySem.F.plainAttrs_list PySem.F.slot_list_append PySem.F.type_list_append mt_append (pe_ix ix_list (pv 16) (pe_op op_sub (pe_callB call_len_seq (by rfl) T.len (by decide +kernel) (pa_cons (pv 16) pa_nil)) pe_int) (fun _ _ => rfl)) (pa_cons pe_non pa_nil)))
      (pss_one (ps_if (PW.pt (pw_or (pt_cmpR (op_neD hr.units) (pv 2) (pv 6) (nomark _)) (pw_or1 (pt_cmpR op_ne (pe_callB (call_reprD hgd hr.units) (by rfl) T.repr (by decide +kernel) (pa_cons (pe_slice sl_list (pv 16) (po_some pe_int) (po_some (pe_un un_neg pe_int))) pa_nil)) (pe_callB (call_reprD hgd hr.units) (by rfl) T.repr (by decide +kernel) (pa_cons (pe_slice sl_list (pv 5) (po_some pe_int) po_none) pa_nil)) (nomark _))))) (pss_one (ps_ret pe_bl)) pss_nil)))))))
      (pss_one (ps_ret (pe_and (pe_cmpR (op_eqD hr.units) (pe_cal c_uppermost (hr.mono (by decide)) (by rfl) (pa_cons (pv 3) (pa_cons (pv 2) pa_nil))) (pe_op op_cat (pe_lst (pa_cons (pv 4) pa_nil)) (pv 5)) (nomark _)) (pe_one (pe_cmpR (op_eqD hr.units) (pe_cal c_lowermost (hr.mono (by decide)) (by rfl) (pa_cons (pv 3) (pa_cons (pv 2) pa_nil))) (pe_op op_cat (pv 5) (pe_lst (pa_cons (pv 4) pa_nil))) (nomark _))))))))))))))))))))), ?_⟩
  refine qw_set (g := g) (P := fun v H1 => ∃ k, CX.Kd.good k ∧ Gen g (m + 2) H1 ∧ jT.r (wo g H1) v k) (fun Q q => ⟨_, rfl, (show spLKind ([.ref g, .bl true] ++ []) H Q E0 from ⟨g, m, rfl, by omega, hg, fun v H' k hk e hg' hv => q v H' e ⟨k, hk, hg', hv⟩⟩)⟩) fun vk H1 e1 p1 => ?_
  obtain ⟨k, hkg, hg1, hk1⟩ := p1
  refine qw_set (g := g) (P := fun v H2 => ∃ xs : List (List Int), 1 ≤ xs.length ∧ xs.length ≤ 5 ∧ (∀ x, x ∈ xs → CX.Okk k x ∧ CX.crK k x ≤ 4) ∧ Gen g (m + 40) H2 ∧ jLL.r (wo g H2) v xs) (fun Q q => ?_) fun vx H2 e2 p2 => ?_
  · refine ⟨_, rfl, _, rfl, ?_⟩
    refine ew_add (g := g) (n := 5) (m := m + 3) (f := fun i j => .int (i + j)) ((show m + 2 + 1 = m + 3 by omega) ▸ ew_rnd (g := g) (m := m + 2) (n := 5) (ev_v rfl) ev_c (by decide) (by decide) (by omega) hg1) _ fun v H2 e2 ⟨r, hr, ev, hg2⟩ => ?_
    subst ev
    show spLStand ([.ref g, vk, .int (1 + (r : Int)), .int 4] ++ []) H2 Q E0
    refine ⟨g, vk, k, m + 3, r + 1, by rw [show (1 : Int) + (r : Int) = ((r + 1 : Nat) : Int) by omega]; rfl, by omega, jT.mono e2 hk1, hkg, by omega, hg2, fun u H' xs hl hx e hg' hu => q u H' (e2.trans e) ⟨xs, by omega, by omega, hx, hg'.up (by omega), hu⟩⟩
  obtain ⟨xs, hl1, hl5, hxo, hg2, hx2⟩ := p2
  have hk2 := jT.mono e2 hk1
  have hst := std_of hkg hl1 hl5 hxo
  have hX : preX k xs := ⟨hkg, hst⟩
  have okw := CX.wholeK_ok hkg hst.all
  have hcw := hst.cr
  generalize hw : CX.wholeK k xs = w at okw hcw
  generalize hn : xs.length - 1 = n
  have hn4 : n ≤ 4 := by omega
  have e02 : ExG g H H2 := e1.trans e2
  refine q_tup2 (P1 := Nu (jK C) H2 k) (P2 := fun H3 => Nu jLI H3 w) (ev_make hkg (ev_k0 (ev_var rfl (jT.mono wo_ex hk2))) (ev_k1 (ev_var rfl (jT.mono wo_ex hk2)))) (fun v H3 e3 p3 => ev_ixLn (j := 0) (xs := CX.wholesK k xs) (H0 := H3) (nu1 (ev_c2 (x := k) (y := xs) (ev_var rfl (jT.mono (wo_ex.trans e3) hk2)) (ev_var rfl (jLL.mono (wo_ex.trans e3) hx2)) hX)) ev_c rfl (by have := wholes_head (k := k) (xs := xs) (j := 0) (by omega); rw [List.drop_zero, hw] at this; exact this)) fun vt ve H3 H4 H5 e3 p3 e4 p4 e5 => ?_
  have e25 := (e3.trans e4).trans e5
  have hg5 := hg2.mono e25
  have ht5 : (jK C).r (wo g H5) vt k := (jK C).mono ((wo_new hg2.ne).trans (wo_mono (e4.trans e5))) p3
  have he5 : jLI.r (wo g H5) ve w := jLI.mono ((wo_new (hg2.mono e3).ne).trans (wo_mono e5)) p4
  have hk5 := jT.mono (wo_mono e25) hk2
  have hx5 := jLL.mono (wo_mono e25) hx2
  have e05 : ExG g H H5 := e02.trans (Ex.g e25)
  refine q_par (P1 := Nu jLL H5 (List.replicate n k.start)) (P2 := fun H6 => Nu jLL H6 xs) ?_ (fun v H6 e6 p6 => ev_copy (ev_var rfl (jLL.mono (wo_ex.trans e6) hx5)) (by omega) (fun _ => rfl) (fun _ => rfl)) fun vs vq H6 H7 e6 p6 e7 p7 => ?_
  · refine Ev.imp (ev_lcA (S := jLI) (xs := xs.drop 1) (fun _ => k.start) (ev_fromL (a := 1) (ev_var rfl (jLL.mono wo_ex hx5)) ev_c rfl) (by rw [List.length_drop]; omega) (fun _ => rfl) (fun i x v H6 e6 hxi rx => nu1 (ev_c1 (x := k) (ev_var rfl (jT.mono (wo_ex.trans e6) hk5)) hkg))) fun v H6 e6 p => ?_
    rw [List.map_const', List.length_drop, hn] at p
    exact p
  have e57 := e6.trans e7
  have hg7 := hg5.mono e57
  have hs7 : jLL.r (wo g H7) vs (List.replicate n k.start) := jLL.mono ((wo_new hg5.ne).trans (wo_mono e7)) p6
  have hq7 : jLL.r (wo g H7) vq xs := jLL.mono (wo_new (hg5.mono e6).ne) p7
  have ht7 := (jK C).mono (wo_mono e57) ht5
  have he7 := jLI.mono (wo_mono e57) he5
  have hk7 := jT.mono (wo_mono e57) hk5
  have hx7 := jLL.mono (wo_mono e57) hx5
  have e07 : ExG g H H7 := e05.trans (Ex.g e57)
  refine q_par (P1 := Nu (jLd jLI) H7 (CX.topK k w n)) (P2 := fun H8 => Nu (jLd jLI) H8 (CX.botK k w n)) ?_ (fun v H8 e8 p8 => ?_) fun vh vl H8 H9 e8 p8 e9 p9 => ?_
  · have h := nu1 (ev_c2 (E := E0) (pre := preX) (post := fun k xs r => r = CX.topK k (CX.wholeK k xs) (xs.length - 1)) (RR := jLd jLI) (ta := tVar 3) (tb := tVar 2) (x := k) (y := xs) (σ := [some (.ref g), some vk, some vx, some vt, some ve, some vs, some vq, none, none, none, none, none, none, none, none, none, none, none]) (ev_var rfl ((jK C).mono wo_ex ht7)) (ev_var rfl (jLL.mono wo_ex hx7)) hX)
    rw [hw, hn] at h
    exact h
  · have h := nu1 (ev_c2 (E := E0) (pre := preX) (post := fun k xs r => r = CX.botK k (CX.wholeK k xs) (xs.length - 1)) (RR := jLd jLI) (ta := tVar 3) (tb := tVar 2) (x := k) (y := xs) (σ := [some (.ref g), some vk, some vx, some vt, some ve, some vs, some vq, none, none, none, none, none, none, none, none, none, none, none]) (ev_var rfl ((jK C).mono (wo_ex.trans e8) ht7)) (ev_var rfl (jLL.mono (wo_ex.trans e8) hx7)) hX)
    rw [hw, hn] at h
    exact h
  have e79 := e8.trans e9
  change tSeq _ _ _ (sg (some (.ref g)) (some vk) vx vt ve vs vq none none (some vh) (some vl) none none none none none none none) H9
  have hg9 := hg7.mono e79
  have hh9 : jLL.r (wo g H9) vh (CX.topK k w n) := jLL.mono ((wo_new hg7.ne).trans (wo_mono e9)) (jLd_L p8)
  have hl9 : jLL.r (wo g H9) vl (CX.botK k w n) := jLL.mono (wo_new (hg7.mono e8).ne) (jLd_L p9)
  have hs9 := jLL.mono (wo_mono e79) hs7
  have hq9 := jLL.mono (wo_mono e79) hq7
  have ht9 := (jK C).mono (wo_mono e79) ht7
  have he9 := jLI.mono (wo_mono e79) he7
  have hk9 := jT.mono (wo_mono e79) hk7
  have hx9 := jLL.mono (wo_mono e79) hx7
  have e09 : ExG g H H9 := e07.trans (Ex.g e79)
  refine q_skip (chk0 rfl rfl rfl rfl (jLI.mono wo_ex he9) (jLL.mono wo_ex hs9) hn4 (jLL.mono wo_ex hh9) (jLL.mono wo_ex hl9)) fun H10 e10 => ?_
  have hg10 := hg9.mono e10
  refine ⟨_, rfl, _, rfl, _, rfl, ?_⟩
  refine ew_rnd (g := g) (m := m + 40) (n := 16) (ev_v rfl) ev_c (by decide) (by decide) (by omega) hg10 _ fun v H11 e11 ⟨r, hr16, ev, hg11⟩ => ?_
  subst ev
  dsimp only [tNil]
  have e911 : ExG g H9 H11 := (Ex.g e10).trans e11
  refine ⟨g, vk, vx, k, xs, r, m + 41, rfl, by omega, jT.mono e911 hk9, jLL.mono e911 hx9, hX, by omega, (show m + 40 + 1 = m + 41 by omega) ▸ hg11, fun a H12 w1 w2 ys hY hly hwy e12 hg12 ha hy12 => ?_⟩
  refine ⟨a, _, rfl, .inl (.inl ha), rfl, _, _, rfl, _, _, rfl, rfl, ?_⟩
  change tSeq _ _ _ (sg (some (.ref g)) (some vk) vx vt ve vs vq none none (some vh) (some vl) (some w1) (some w2) none none none none none) H12
  have e912 : ExG g H9 H12 := e911.trans e12
  have e0C : ExG g H H12 := e09.trans e912
  have hhC := jLL.mono e912 hh9
  have hlC := jLL.mono e912 hl9
  have hsC := jLL.mono e912 hs9
  have hqC := jLL.mono e912 hq9
  have htC := (jK C).mono e912 ht9
  have heC := jLI.mono e912 he9
  have hkC := jT.mono e912 hk9
  have hxC := jLL.mono e912 hx9
  clear e12 e11 e10 e09 e79 e57 e25 e05 e07
  have htop : preX k (CX.topK k w n) := ⟨hkg, CX.std_top hkg okw hcw (by omega)⟩
  have hbot : preX k (CX.botK k w n) := ⟨hkg, CX.std_bot hkg okw hcw (by omega)⟩
  have htur : preX k (CX.turnK k xs) := ⟨hkg, CX.turn_std hkg hst⟩
  have q1 : CX.topK k (CX.wholeK k ys) (ys.length - 1) = CX.topK k w n := by rw [hwy, hly, hw, hn]
  have q2 : CX.botK k (CX.wholeK k ys) (ys.length - 1) = CX.botK k w n := by rw [hwy, hly, hw, hn]
  have q3 : CX.topK k (CX.wholeK k (CX.botK k w n)) ((CX.botK k w n).length - 1) = CX.topK k w n := by rw [CX.whole_bot hkg okw, CX.len_bot, Nat.add_sub_cancel]
  have q4 : CX.topK k (CX.wholeK k (CX.turnK k xs)) ((CX.turnK k xs).length - 1) = CX.topK k (CX.oppK k w) n := by rw [CX.turn_whole hkg hst.all, CX.turn_len, hw, hn]
  have q5 : CX.botK k (CX.wholeK k (CX.turnK k xs)) ((CX.turnK k xs).length - 1) = CX.botK k (CX.oppK k w) n := by rw [CX.turn_whole hkg hst.all, CX.turn_len, hw, hn]
  refine q_skip (chk1 rfl rfl rfl rfl ((jK C).mono wo_ex htC) (jLL.mono wo_ex hy12) (jLL.mono wo_ex hhC) (jLL.mono wo_ex hlC) hY hbot q1 q2 q3) fun H13 e13 => ?_
  have hhD := jLL.mono (wo_mono e13) hhC
  have hlD := jLL.mono (wo_mono e13) hlC
  have htD := (jK C).mono (wo_mono e13) htC
  have hxD := jLL.mono (wo_mono e13) hxC
  have hg13 := hg12.mono e13
  refine q_set (P := Nu jLL H13 (CX.turnK k xs)) (nu1 (ev_c2 (ev_var rfl ((jK C).mono wo_ex htD)) (ev_var rfl (jLL.mono wo_ex hxD)) hX)) fun vb H14 e14 p14 => ?_
  change tSeq _ _ _ (sg (some (.ref g)) (some vk) vx vt ve vs vq none none (some vh) (some vl) (some w1) (some w2) (some vb) none none none none) H14
  have hhE := jLL.mono (wo_ex.trans e14) hhD
  have hlE := jLL.mono (wo_ex.trans e14) hlD
  have htE := (jK C).mono (wo_ex.trans e14) htD
  refine q_skip (chk2 hkg okw rfl rfl rfl rfl htE p14.is hhE hlE htop hbot htur q4 q5) fun H15 e15 => ?_
  have e1415 := e14.trans e15
  have hhF := jLL.mono e15 hhE
  have hlF := jLL.mono e15 hlE
  have htF := (jK C).mono e15 htE
  have hkF := jT.mono ((wo_mono (e13.trans e1415)).trans wo_ex) hkC
  have heF := jLI.mono ((wo_mono (e13.trans e1415)).trans wo_ex) heC
  have hxF := jLL.mono ((wo_mono (e13.trans e1415)).trans wo_ex) hxC
  have hxl : xs.length = n + 1 := by omega
  refine q_set (ev_lines hkg okw hcw hn4 rfl rfl rfl htF hhF hlF htop hbot) fun vL H16 e16 p16 => ?_
  obtain ⟨_, ⟨la, lb, sa, sb, rfl⟩, pL⟩ := p16
  change tSeq _ _ _ (sg (some (.ref g)) (some vk) vx vt ve vs vq none none (some vh) (some vl) (some w1) (some w2) (some vb) (some vL) none none none) H16
  have hkG := jT.mono e16 hkF
  have heG := jLI.mono e16 heF
  have hxG := jLL.mono e16 hxF
  refine q_skip (chk_lines rfl rfl rfl rfl rfl ((jL (jL jD)).mono newOf_ex pL) hkG heG hxG hxl sa sb) fun H17 e17 => ?_
  have hkH := jT.mono e17 hkG
  have heH := jLI.mono e17 heG
  have hxH := jLL.mono e17 hxG
  refine q_set (ev_far hkg okw hcw hxl hn4 rfl rfl rfl hkH heH hxH) fun vf H18 e18 p18 => ?_
  cases p18
  change tSeq _ _ _ (sg (some (.ref g)) (some vk) vx vt ve vs vq none none (some vh) (some vl) (some w1) (some w2) (some vb) (some vL) (some (V.int ((2 * n * CX.crK k w : Nat) : Int))) none none) H18
  have e1518 := (e16.trans e17).trans e18
  have hhJ := jLL.mono e1518 hhF
  have hlJ := jLL.mono e1518 hlF
  have htJ := (jK C).mono e1518 htF
  refine q_skip (chk3 hkg okw rfl rfl rfl rfl htJ hhJ hlJ htop hbot) fun H19 e19 => ?_
  have e1219 : Ex H12 H19 := e13.trans (e1415.trans (e1518.trans e19))
  have q6 : CX.topK k (CX.wholeK k xs) (xs.length - 1) = CX.topK k w n := by rw [hw, hn]
  have q7 : CX.botK k (CX.wholeK k xs) (xs.length - 1) = CX.botK k w n := by rw [hw, hn]
  exact good_end hkg hX okw hcw hn4 q6 q7 ((jK C).mono (wo_ex.trans e1219) htC) (jLL.mono (wo_ex.trans e1219) hxC) (jLL.mono (wo_ex.trans e1219) hqC) (jLL.mono (wo_ex.trans e1219) hsC) (jLI.mono (wo_ex.trans e1219) heC) fun H' e' => q H' (e0C.trans (Ex.g (e1219.trans e')))
end
end SL
end
section
set_option Elab.async false
set_option linter.all false
set_option maxRecDepth 100000
set_option maxHeartbeats 4000000
set_option autoImplicit false
namespace SL
open PySem PySem.Spec PyProof.Rows L2
section
variable {P : Program} {w : World} {K : PySem.W.Frag} {mg : Str → Option Value} {base : Heap} {C : Addr}

/-! ### law -/
def kM : CX.Kd := ⟨.mirror, 2⟩
theorem kM_good : kM.good := by show 1 ≤ 2 ∧ 2 ≤ 5; decide
theorem okM1 : CX.Okk kM [-1, 2] := ⟨[0], by decide, by decide +kernel⟩
theorem okM2 : CX.Okk kM [2, 1] := ⟨[1], by decide, by decide +kernel⟩
theorem redM1 : CX.RedK kM [0] [-1, 2] := CX.RedK.step (r := []) kM_good okM1 (by decide) (by decide +kernel) (by
  have h := CX.RedK.start kM_good
  have e : CX.byK kM [-1, 2] 0 = kM.start := by decide +kernel
  rw [e]; exact h)
theorem redM2 : CX.RedK kM [1] [2, 1] := CX.RedK.step (r := []) kM_good okM2 (by decide) (by decide +kernel) (by
  have h := CX.RedK.start kM_good
  have e : CX.byK kM [2, 1] 1 = kM.start := by decide +kernel
  rw [e]; exact h)
theorem wholeM {x y z : List Int} {r : List Nat} (hx : CX.Okk kM x) (h : CX.RedK kM r y) (e : r.foldl (CX.gainK kM) x = z) : CX.wholeK kM [x, y] = z := by
  rw [CX.wholeK_cons kM_good, CX.wholeK_one kM_good h.ok, ← CX.red_gained kM_good hx h, e]
theorem whM1 : CX.wholeK kM [[-1, 2], [2, 1]] = [2, -1] := wholeM okM1 redM2 (by decide +kernel)
theorem whM2 : CX.wholeK kM [[-1, 2], [-1, 2]] = [-1, 2] := wholeM okM1 redM1 (by decide +kernel)
theorem stdM {x y : List Int} (hx : CX.Okk kM x) (hy : CX.Okk kM y) (h : CX.crK kM (CX.wholeK kM [x, y]) ≤ 60) : CX.StdK kM [x, y] :=
  ⟨(fun h => nomatch h), (by show 2 ≤ 8; decide), fun z hz => by
    rcases List.mem_cons.mp hz with e | e
    · rw [e]; exact hx
    · rw [List.mem_singleton.mp e]; exact hy, h⟩
theorem preM1 : preX kM [[-1, 2], [2, 1]] := ⟨kM_good, stdM okM1 okM2 (by rw [whM1]; decide +kernel)⟩
theorem preM2 : preX kM [[-1, 2], [-1, 2]] := ⟨kM_good, stdM okM1 okM1 (by rw [whM2]; decide +kernel)⟩
theorem topM : CX.topK kM (CX.wholeK kM [[-1, 2], [2, 1]]) ([[-1, 2], [2, 1]].length - 1) = [[2, -1], [1, 2]] := by rw [whM1]; decide +kernel
theorem botM : CX.botK kM (CX.wholeK kM [[-1, 2], [-1, 2]]) ([[-1, 2], [-1, 2]].length - 1) = [[1, 2], [-1, 2]] := by rw [whM2]; decide +kernel
theorem ev_pairI {σ : L2.St} {H : Hp} {ta tb : TE} {a b : Int} (h1 : Ev ta σ H (Eqv (.int a))) (h2 : Ev tb σ H (Eqv (.int b))) : Ev (tLst (tCons ta (tCons tb tNil))) σ H (Is jLI [a, b]) :=
  ev_lst (ea_2 h1 h2) (fun vs H1 ⟨v, w, e, _⟩ => by rw [e]; show 2 ≤ 100000; decide) fun vs H1 p e ⟨v, w, ev, p1, p2⟩ hn => by
    subst ev
    cases p1; cases p2
    exact ⟨p, rfl, upd_same⟩
theorem ev_m1 {σ : L2.St} {H : Hp} : Ev (tUn (rU fun i => .int (-i)) (tC (.int 1))) σ H (Eqv (.int (-1))) := ev_u ev_c
abbrev spLaw (K : PySem.W.Frag) : Sp := fun vs H Q _ => ∃ v xs, vs = [v] ∧ (jSq K).r H v xs ∧ ∀ H', Ex H H' → Q (.bl true) H'
theorem fnG_mk {x : Str} {st : Stmt} {N ps : List Str} {k : Nat} {sp : Sp} {f : Addr} {fd : FuncData} (F : FunD K x x (defArgs st) (defBody st) (defScope st) [] [] f fd) (S : FnScope N ps (defScope st)) (len : ∀ vs H Q E, sp vs H Q E → vs.length = ps.length)
    (body : ∀ (f : Addr) (cdv : Value) (A : Around) (outer : List Env) (s : Shared) (H : Hp) (vs : List V) (Q : VK) (E : XK), A.guards = some [] → Room k (A.deeper (envOfC x (defScope st) s.heap.objs.size f cdv)) → sp vs H Q E →
      ∃ t, PSs (cxOf CX0 P w K mg base N x (defScope st) f cdv A outer s H E).nox (defBody st) t ∧ t { nx := fun _ H' => Q .non H', rt := Q } (L2.start N vs) H) : FnG P w K mg base (k + 1) f fd ps sp := by
  obtain ⟨oc, od, dV, kV, doc, pm, an, cdv, ct, osl, rfl, lk, hcd, _, _⟩ := F.ex
  refine fnG_of lk hcd S len fun A outer s H vs Q E hgd hr h => ?_
  obtain ⟨t, h1, h2⟩ := body f cdv A outer s H vs Q E hgd hr h
  exact ⟨t, h1.nox, h2⟩
theorem c_law {f : Addr} {fd : FuncData} (T : Tp K mg C) (F : FunD K "law" "law" (defArgs s_law) (defBody s_law) (defScope s_law) [] [] f fd) (M : Mkr P w K mg base C 4) (c__law_generator : Cal P w K mg base 2 "_law_generator" p__law_generator (spLGen K)) (c__law_good : CalG P w K mg base 12 "_law_good" p__law_good spGood) (c_uppermost : Cal P w K mg base 10 "uppermost" p_uppermost (spUp C)) (c_lowermost : Cal P w K mg base 10 "lowermost" p_lowermost (spLo C)) : FnG P w K mg base 13 f fd p_law (spLaw K) := by
  refine fnG_mk F sc_law (fun _ _ _ _ h => by obtain ⟨_, _, rfl, _⟩ := h; rfl) (fun f cdv A outer s H vs Q E hgd hr h => ?_)
  obtain ⟨v, xs, rfl, hx, q⟩ := h
  have hr' := hr
  refine ⟨_, (pss_cons (ps_for PassesOwn.never rfl (pi_range1 rfl T.range (pa_cons pe_int pa_nil)) (pg_name (i := 1) sc_law.nd rfl (.inl rfl)) (pss_one (ps_if (pt_not (pt_val (pe_calG c__law_good hgd (hr.mono (by decide)) (by rfl) (pa_cons (pe_cal c__law_generator (hr.mono (by decide)) (by rfl) (pa_cons (pv 0) (pa_cons (pv 1) pa_nil))) pa_nil)))) (pss_one (ps_ret pe_bl)) pss_nil)))
      (pss_cons (ps_set (i := 2) sc_law.nd rfl (.inl rfl) (pe_kind M (hr.mono (by decide)) (by rfl) T.mgC (pa_cons pe_str (pa_cons pe_int pa_nil))))
      (pss_one (ps_ret (pe_and (pe_cmpR (op_eqD hr.units) (pe_cal c_uppermost (hr.mono (by decide)) (by rfl) (pa_cons (pv 2) (pa_cons (pe_lst (pa_cons (pe_lst (pa_cons (pe_un un_neg pe_int) (pa_cons pe_int pa_nil))) (pa_cons (pe_lst (pa_cons pe_int (pa_cons pe_int pa_nil))) pa_nil))) pa_nil))) (pe_lst (pa_cons (pe_lst (pa_cons pe_int (pa_cons (pe_un un_neg pe_int) pa_nil))) (pa_cons (pe_lst (pa_cons pe_int (pa_cons pe_int pa_nil))) pa_nil))) (nomark _)) (pe_one (pe_cmpR (op_eqD hr.units) (pe_cal c_lowermost (hr.mono (by decide)) (by rfl) (pa_cons (pv 2) (pa_cons (pe_lst (pa_cons (pe_lst (pa_cons (pe_un un_neg pe_int) (pa_cons pe_int pa_nil))) (pa_cons (pe_lst (pa_cons (pe_un un_neg pe_int) (pa_cons pe_int pa_nil))) pa_nil))) pa_nil))) (pe_lst (pa_cons (pe_lst (pa_cons pe_int (pa_cons pe_int pa_nil))) (pa_cons (pe_lst (pa_cons (pe_un un_neg pe_int) (pa_cons pe_int pa_nil))) pa_nil))) (nomark _)))))))), ?_⟩
  refine q_forR (n := 3) ev_c (by decide) (fun i σ' H' => Ex H H' ∧ ∃ c, σ' = [some v, c, none]) (fun H1 e => ⟨e, _, rfl⟩) (fun i σ' H' hi p => ?_) fun σ' H' p => ?_
  · obtain ⟨e, c, rfl⟩ := p
    refine s_skip (et_not (a := true) (et_test (fun H1 e1 Q q => ⟨_, rfl, _, rfl, ?_⟩))) fun H2 e2 => ⟨e.trans e2, _, rfl⟩
    show spLGen K ([v, .int (i : Int)] ++ []) H1 (fun x H1 => spGood ([x] ++ []) H1 Q E0) E0
    refine ⟨v, xs, i, rfl, (jSq K).mono (e.trans e1) hx, hi, fun g H2 e2 hg hG => ?_⟩
    show spGood ([.ref g] ++ []) H2 _ E0
    refine ⟨g, 3000, rfl, by decide, hG, fun H3 e3 => q _ H3 (fun a o ha => e3.at (fun z => ?_) (e2 _ _ ha)) rfl⟩
    rw [z, hg] at ha
    cases ha
  · obtain ⟨e, c, rfl⟩ := p
    refine q_set (P := Nu (jK C) H' kM) (ev_make kM_good ev_c ev_c) fun vm H1 e1 p1 => ?_
    have hm := p1.is
    refine s_ret (P := Eqv (.bl true)) (ev_and (a := true) (b := true) ((ev_eqD (encL encLI) (is_of (ev_c2 (x := kM) (y := [[-1, 2], [2, 1]]) (ev_var rfl hm) (ev_twoI (ev_pairI ev_m1 ev_c) (ev_pairI ev_c ev_c)) preM1) topM) (ev_twoI (ev_pairI ev_c ev_m1) (ev_pairI ev_c ev_c))).eq (by rw [decide_eq_true rfl])) fun _ =>
      (ev_eqD (encL encLI) (is_of (ev_c2 (x := kM) (y := [[-1, 2], [-1, 2]]) (ev_var rfl hm) (ev_twoI (ev_pairI ev_m1 ev_c) (ev_pairI ev_m1 ev_c)) preM2) botM) (ev_twoI (ev_pairI ev_c ev_c) (ev_pairI ev_m1 ev_c))).eq (by rw [decide_eq_true rfl])) fun v H2 e2 p2 => ?_
    cases p2
    exact q H2 ((e.trans e1).trans e2)
end
end SL
end
section
set_option Elab.async false
set_option linter.all false
set_option maxRecDepth 100000
set_option maxHeartbeats 4000000
set_option autoImplicit false
/-! From the head's facts to law's promise. -/
namespace SL
open PySem PySem.Spec PyProof.Rows L2
/-- all defs of the text stand -/
structure Defs (K : PySem.W.Frag) (mg : Str → Option Value) : Prop where
  D_check_kind : Dfn K mg "check_kind" s_check_kind
  D_is_crossed : Dfn K mg "is_crossed" s_is_crossed
  D_by_step : Dfn K mg "by_step" s_by_step
  D_item_at : Dfn K mg "item_at" s_item_at
  D_product_of : Dfn K mg "product_of" s_product_of
  D_ahead_of : Dfn K mg "ahead_of" s_ahead_of
  D_opposite_of : Dfn K mg "opposite_of" s_opposite_of
  D_falls_of : Dfn K mg "falls_of" s_falls_of
  D_heads_of : Dfn K mg "heads_of" s_heads_of
  D_crossings_between : Dfn K mg "crossings_between" s_crossings_between
  D_crossings_of : Dfn K mg "crossings_of" s_crossings_of
  D_is_whole : Dfn K mg "is_whole" s_is_whole
  D_is_order_list : Dfn K mg "is_order_list" s_is_order_list
  D_is_let_order : Dfn K mg "is_let_order" s_is_let_order
  D_least_row_of : Dfn K mg "least_row_of" s_least_row_of
  D_gain : Dfn K mg "gain" s_gain
  D_gained_all : Dfn K mg "gained_all" s_gained_all
  D_greedy_of : Dfn K mg "greedy_of" s_greedy_of
  D_wholes_of : Dfn K mg "wholes_of" s_wholes_of
  D_whole_of : Dfn K mg "whole_of" s_whole_of
  D_is_let_standing : Dfn K mg "is_let_standing" s_is_let_standing
  D_check_standing : Dfn K mg "check_standing" s_check_standing
  D_check_two_standings : Dfn K mg "check_two_standings" s_check_two_standings
  D_copied : Dfn K mg "copied" s_copied
  D_turned_of : Dfn K mg "turned_of" s_turned_of
  D_turned : Dfn K mg "turned" s_turned
  D_deeds_of : Dfn K mg "deeds_of" s_deeds_of
  D_behind_deed : Dfn K mg "behind_deed" s_behind_deed
  D_are_joined : Dfn K mg "are_joined" s_are_joined
  D_last_layer : Dfn K mg "last_layer" s_last_layer
  D_deeds_up : Dfn K mg "deeds_up" s_deeds_up
  D_deeds_down : Dfn K mg "deeds_down" s_deeds_down
  D_way_of : Dfn K mg "way_of" s_way_of
  D_joined : Dfn K mg "joined" s_joined
  D_way : Dfn K mg "way" s_way
  D_uppermost : Dfn K mg "uppermost" s_uppermost
  D_lowermost : Dfn K mg "lowermost" s_lowermost
  D_height_of : Dfn K mg "height_of" s_height_of
  D_depth_of : Dfn K mg "depth_of" s_depth_of
  D_leads_up : Dfn K mg "leads_up" s_leads_up
  D_steps_up : Dfn K mg "steps_up" s_steps_up
  D_far_above : Dfn K mg "far_above" s_far_above
  D_far_below : Dfn K mg "far_below" s_far_below
  D_way_up : Dfn K mg "way_up" s_way_up
  D__law_steps : Dfn K mg "_law_steps" s__law_steps
  D__law_start : Dfn K mg "_law_start" s__law_start
  D__law_fall : Dfn K mg "_law_fall" s__law_fall
  D__law_by : Dfn K mg "_law_by" s__law_by
  D__law_falls : Dfn K mg "_law_falls" s__law_falls
  D__law_row : Dfn K mg "_law_row" s__law_row
  D__law_made : Dfn K mg "_law_made" s__law_made
  D__law_back : Dfn K mg "_law_back" s__law_back
  D__law_ahead : Dfn K mg "_law_ahead" s__law_ahead
  D__law_heads : Dfn K mg "_law_heads" s__law_heads
  D__law_greedy : Dfn K mg "_law_greedy" s__law_greedy
  D__law_wholes : Dfn K mg "_law_wholes" s__law_wholes
  D__law_deeds : Dfn K mg "_law_deeds" s__law_deeds
  D__law_done : Dfn K mg "_law_done" s__law_done
  D__law_each_seam_right : Dfn K mg "_law_each_seam_right" s__law_each_seam_right
  D__law_hash : Dfn K mg "_law_hash" s__law_hash
  D__law_random : Dfn K mg "_law_random" s__law_random
  D__law_cell : Dfn K mg "_law_cell" s__law_cell
  D__law_generator : Dfn K mg "_law_generator" s__law_generator
  D__law_kind : Dfn K mg "_law_kind" s__law_kind
  D__law_order : Dfn K mg "_law_order" s__law_order
  D__law_standing : Dfn K mg "_law_standing" s__law_standing
  D__law_walked : Dfn K mg "_law_walked" s__law_walked
  D_is_between : Dfn K mg "is_between" s_is_between
  D_check_number : Dfn K mg "check_number" s_check_number
  D__law_good : Dfn K mg "_law_good" s__law_good
/-- all methods of the class stand -/
structure Mths (K : PySem.W.Frag) (C : Addr) : Prop where
  mkr : ∃ f fd, Mk K C f ∧ Fd K "__init__" "Kind.__init__" s_Kind___init__ f fd
  name : ∃ f fd, Meth K C "name" f ∧ Fd K "name" "Kind.name" s_Kind_name f fd
  size : ∃ f fd, Meth K C "size" f ∧ Fd K "size" "Kind.size" s_Kind_size f fd
  steps : ∃ f fd, Meth K C "steps" f ∧ Fd K "steps" "Kind.steps" s_Kind_steps f fd
  start : ∃ f fd, Meth K C "start" f ∧ Fd K "start" "Kind.start" s_Kind_start f fd
section
variable {P : Program} {w : World} {K : PySem.W.Frag} {mg : Str → Option Value} {base : Heap} {C : Addr}
theorem law_fn {f : Addr} {fd : FuncData} (T : Tp K mg C) (B : Bnd K w mg) (DD : Defs K mg) (MM : Mths K C) (F : FunD K "law" "law" (defArgs s_law) (defBody s_law) (defScope s_law) [] [] f fd) : FnG P w K mg base 13 f fd p_law (spLaw K) := by
  obtain ⟨fi, fdi, Mi, Fi⟩ := MM.mkr
  obtain ⟨f_name, fd_name, h_name, F_name⟩ := MM.name
  obtain ⟨f_size, fd_size, h_size, F_size⟩ := MM.size
  obtain ⟨f_steps, fd_steps, h_steps, F_steps⟩ := MM.steps
  obtain ⟨f_start, fd_start, h_start, F_start⟩ := MM.start
  have c__law_cell := SL.c__law_cell (P := P) (w := w) (base := base) T DD.D__law_cell
  have c__law_generator := SL.c__law_generator (P := P) (w := w) (base := base) T DD.D__law_generator c__law_cell
  have m_start := SL.m_start (P := P) (w := w) (base := base) T h_start F_start
  have m_name := SL.m_name (P := P) (w := w) (base := base) T h_name F_name
  have c_by_step := SL.c_by_step (P := P) (w := w) (base := base) T DD.D_by_step m_name
  have m_steps := SL.m_steps (P := P) (w := w) (base := base) T h_steps F_steps
  have c_is_crossed := SL.c_is_crossed (P := P) (w := w) (base := base) T DD.D_is_crossed m_name
  have c_falls_of := SL.c_falls_of (P := P) (w := w) (base := base) T DD.D_falls_of m_steps c_is_crossed
  have c_least_row_of := SL.c_least_row_of (P := P) (w := w) (base := base) T DD.D_least_row_of c_by_step c_falls_of
  have c_gain := SL.c_gain (P := P) (w := w) (base := base) T DD.D_gain c_is_crossed c_by_step
  have c_gained_all := SL.c_gained_all (P := P) (w := w) (base := base) T DD.D_gained_all c_gain
  have c_greedy_of := SL.c_greedy_of (P := P) (w := w) (base := base) T DD.D_greedy_of c_least_row_of c_gained_all
  have c_wholes_of := SL.c_wholes_of (P := P) (w := w) (base := base) T DD.D_wholes_of c_greedy_of
  have c_whole_of := SL.c_whole_of (P := P) (w := w) (base := base) T DD.D_whole_of c_wholes_of
  have c_check_kind := SL.c_check_kind (P := P) (w := w) (base := base) T DD.D_check_kind
  have c_crossings_between := SL.c_crossings_between (P := P) (w := w) (base := base) T DD.D_crossings_between m_name
  have c_crossings_of := SL.c_crossings_of (P := P) (w := w) (base := base) T DD.D_crossings_of m_name c_crossings_between
  have m_size := SL.m_size (P := P) (w := w) (base := base) T h_size F_size
  have c_is_whole := SL.c_is_whole (P := P) (w := w) (base := base) T DD.D_is_whole
  have c_is_order_list := SL.c_is_order_list (P := P) (w := w) (base := base) T DD.D_is_order_list m_name m_size c_is_whole
  have c_is_let_order := SL.c_is_let_order (P := P) (w := w) (base := base) T DD.D_is_let_order c_is_order_list c_crossings_of
  have c_is_let_standing := SL.c_is_let_standing (P := P) (w := w) (base := base) T DD.D_is_let_standing c_crossings_of c_is_let_order c_whole_of
  have c_check_standing := SL.c_check_standing (P := P) (w := w) (base := base) T DD.D_check_standing c_check_kind c_is_let_standing
  have c_uppermost := SL.c_uppermost (P := P) (w := w) (base := base) T DD.D_uppermost m_start c_whole_of c_check_standing
  have c_lowermost := SL.c_lowermost (P := P) (w := w) (base := base) T DD.D_lowermost m_start c_whole_of c_check_standing
  have c_is_between := SL.c_is_between (P := P) (w := w) (base := base) T DD.D_is_between c_is_whole
  have c_check_number := SL.c_check_number (P := P) (w := w) (base := base) T DD.D_check_number c_is_between
  have M := SL.mkr_init (P := P) (w := w) (base := base) T B Mi Fi c_check_number
  have c__law_hash := SL.c__law_hash (P := P) (w := w) (base := base) T DD.D__law_hash
  have c__law_random := SL.c__law_random (P := P) (w := w) (base := base) T DD.D__law_random c__law_hash
  have c__law_kind := SL.c__law_kind (P := P) (w := w) (base := base) T DD.D__law_kind c__law_random
  have c__law_steps := SL.c__law_steps (P := P) (w := w) (base := base) T DD.D__law_steps
  have c__law_start := SL.c__law_start (P := P) (w := w) (base := base) T DD.D__law_start
  have c__law_by := SL.c__law_by (P := P) (w := w) (base := base) T DD.D__law_by
  have c__law_made := SL.c__law_made (P := P) (w := w) (base := base) T DD.D__law_made c__law_by
  have c__law_order := SL.c__law_order (P := P) (w := w) (base := base) T DD.D__law_order c__law_random c__law_steps c__law_start c__law_made
  have c__law_standing := SL.c__law_standing (P := P) (w := w) (base := base) T DD.D__law_standing c__law_order
  have c__law_fall := SL.c__law_fall (P := P) (w := w) (base := base) T DD.D__law_fall
  have c__law_falls := SL.c__law_falls (P := P) (w := w) (base := base) T DD.D__law_falls c__law_steps c__law_fall
  have c__law_row := SL.c__law_row (P := P) (w := w) (base := base) T DD.D__law_row c__law_falls c__law_by
  have c__law_greedy := SL.c__law_greedy (P := P) (w := w) (base := base) T DD.D__law_greedy c__law_fall c__law_by c__law_row
  have c__law_wholes := SL.c__law_wholes (P := P) (w := w) (base := base) T DD.D__law_wholes c__law_greedy
  have c__law_back := SL.c__law_back (P := P) (w := w) (base := base) T DD.D__law_back c__law_start c__law_row c__law_made
  have c__law_heads := SL.c__law_heads (P := P) (w := w) (base := base) T DD.D__law_heads c__law_falls c__law_back
  have c__law_deeds := SL.c__law_deeds (P := P) (w := w) (base := base) T DD.D__law_deeds c__law_falls c__law_heads
  have c__law_ahead := SL.c__law_ahead (P := P) (w := w) (base := base) T DD.D__law_ahead c__law_start c__law_row c__law_made
  have c__law_done := SL.c__law_done (P := P) (w := w) (base := base) T DD.D__law_done c__law_by c__law_ahead
  have c__law_walked := SL.c__law_walked (P := P) (w := w) (base := base) T DD.D__law_walked c__law_random c__law_deeds c__law_done
  have c__law_each_seam_right := SL.c__law_each_seam_right (P := P) (w := w) (base := base) T DD.D__law_each_seam_right c__law_start c__law_row c__law_made
  have c_opposite_of := SL.c_opposite_of (P := P) (w := w) (base := base) T DD.D_opposite_of m_name
  have c_turned_of := SL.c_turned_of (P := P) (w := w) (base := base) T DD.D_turned_of c_opposite_of
  have c_turned := SL.c_turned (P := P) (w := w) (base := base) T DD.D_turned c_turned_of c_check_standing
  have c_are_joined := SL.c_are_joined (P := P) (w := w) (base := base) T DD.D_are_joined c_whole_of
  have c_check_two_standings := SL.c_check_two_standings (P := P) (w := w) (base := base) T DD.D_check_two_standings c_is_let_standing c_check_standing
  have c_joined := SL.c_joined (P := P) (w := w) (base := base) T DD.D_joined c_are_joined c_check_two_standings
  have c_copied := SL.c_copied (P := P) (w := w) (base := base) T DD.D_copied
  have c_last_layer := SL.c_last_layer (P := P) (w := w) (base := base) T DD.D_last_layer m_start
  have c_heads_of := SL.c_heads_of (P := P) (w := w) (base := base) T DD.D_heads_of c_opposite_of c_falls_of
  have c_item_at := SL.c_item_at (P := P) (w := w) (base := base) T DD.D_item_at m_name
  have c_product_of := SL.c_product_of (P := P) (w := w) (base := base) T DD.D_product_of c_item_at
  have c_ahead_of := SL.c_ahead_of (P := P) (w := w) (base := base) T DD.D_ahead_of m_start c_by_step c_product_of
  have c_behind_deed := SL.c_behind_deed (P := P) (w := w) (base := base) T DD.D_behind_deed c_copied c_by_step c_ahead_of
  have c_deeds_up := SL.c_deeds_up (P := P) (w := w) (base := base) T DD.D_deeds_up c_copied c_last_layer c_falls_of c_heads_of c_behind_deed
  have c_deeds_down := SL.c_deeds_down (P := P) (w := w) (base := base) T DD.D_deeds_down c_turned_of c_deeds_up
  have c_way_of := SL.c_way_of (P := P) (w := w) (base := base) T DD.D_way_of c_deeds_up c_deeds_down
  have c_way := SL.c_way (P := P) (w := w) (base := base) T DD.D_way c_are_joined c_way_of c_check_two_standings
  have c_height_of := SL.c_height_of (P := P) (w := w) (base := base) T DD.D_height_of c_crossings_of c_wholes_of
  have c_deeds_of := SL.c_deeds_of (P := P) (w := w) (base := base) T DD.D_deeds_of c_falls_of c_heads_of
  have c_leads_up := SL.c_leads_up (P := P) (w := w) (base := base) T DD.D_leads_up c_is_crossed c_opposite_of c_ahead_of c_greedy_of
  have c_steps_up := SL.c_steps_up (P := P) (w := w) (base := base) T DD.D_steps_up c_behind_deed c_deeds_of c_wholes_of c_leads_up
  have c_way_up := SL.c_way_up (P := P) (w := w) (base := base) T DD.D_way_up c_height_of c_steps_up c_check_standing
  have c_far_above := SL.c_far_above (P := P) (w := w) (base := base) T DD.D_far_above c_height_of c_check_standing
  have c_depth_of := SL.c_depth_of (P := P) (w := w) (base := base) T DD.D_depth_of c_turned_of c_height_of
  have c_far_below := SL.c_far_below (P := P) (w := w) (base := base) T DD.D_far_below c_depth_of c_check_standing
  have c__law_good := SL.c__law_good (P := P) (w := w) (base := base) T DD.D__law_good M DD.D_uppermost DD.D_lowermost c__law_kind c__law_random c__law_standing c__law_wholes c__law_start c__law_walked c__law_each_seam_right c__law_row c_uppermost c_lowermost c_turned c_joined c_way c_way_up c_far_above c_far_below
  exact SL.c_law T F M c__law_generator c__law_good c_uppermost c_lowermost
end
/-! ### from the head -/
theorem tup_at {K : PySem.W.Frag} {d : Addr} {z : Str} {lo hi : Int} (h : SLH.tupI K d z lo hi = true) : ∃ t, PySem.W.nsIn K d z = some (some (.ref t)) ∧ ∀ H, SqT K H t [.int lo, .int hi] := by
  unfold SLH.tupI at h
  cases e : PySem.W.nsIn K d z with
  | none => rw [e] at h; cases h
  | some o =>
    rw [e] at h
    cases o with
    | none => cases h
    | some v =>
      cases v with
      | ref t =>
        refine ⟨t, rfl, fun H => ?_⟩
        have h : (match K.lookup t with
          | some ⟨.type c, _, .seq its _, _⟩ => decide (c = "tuple") && (match its.toList with
            | [.int a _, .int b _] => decide (a = lo) && decide (b = hi)
            | _ => false)
          | _ => false) = true := h
        cases q : K.lookup t with
        | none => rw [q] at h; cases h
        | some o =>
          obtain ⟨oc, od, dt, osl⟩ := o
          rw [q] at h
          cases oc with
          | type c =>
            cases dt with
            | seq its n =>
              obtain ⟨h1, h2⟩ := He.ba (show (decide (c = "tuple") && (match its.toList with
                | [.int a _, .int b _] => decide (a = lo) && decide (b = hi)
                | _ => false)) = true from h)
              refine .inr ⟨_, its, n, q, congrArg Value.type (of_decide_eq_true h1), rfl, ?_⟩
              have e2 : ∃ a ta b tb, its.toList = [.int a ta, .int b tb] ∧ a = lo ∧ b = hi := by
                split at h2
                · rename_i a ta b tb e3
                  obtain ⟨h3, h4⟩ := He.ba h2
                  exact ⟨a, ta, b, tb, e3, of_decide_eq_true h3, of_decide_eq_true h4⟩
                · cases h2
              obtain ⟨a, ta, b, tb, e3, rfl, rfl⟩ := e2
              refine ⟨?_, ?_⟩
              · rw [← Array.length_toList, e3]; show 2 ≤ sizeLine; decide
              · rw [e3]
                exact .cons ⟨ta, rfl⟩ (.cons ⟨tb, rfl⟩ .nil)
            | _ => cases h
          | _ => cases h
      | _ => cases h
section
variable {w : World} {K : PySem.W.Frag} {h : Heap} {mg : Str → Option Value}
theorem tp_of (X : K.In h) (G : h.Ns mainGlobals mg) (c : SLH.Says w K) : Tp K mg (He.ga K "Kind") where
  cl := He.cls_ok (c.t.d.fact 96 (f := .cls "Kind") rfl)
  nN := He.noat_ok (c.t.d.fact 97 (f := .noat "Kind" "_name") rfl)
  nS := He.noat_ok (c.t.d.fact 98 (f := .noat "Kind" "_size") rfl)
  isC := by
    obtain ⟨_, h⟩ := He.ba (show (SLH.tupI K (He.ga K "BOUNDS") "plain" 1 7 && _) = true from c.more)
    obtain ⟨_, h⟩ := He.ba h
    obtain ⟨_, h⟩ := He.ba h
    obtain ⟨h1, h⟩ := He.ba h
    obtain ⟨h2, h⟩ := He.ba h
    obtain ⟨h3, h⟩ := He.ba h
    obtain ⟨h4, h5⟩ := He.ba h
    exact ⟨He.cls_ok (c.t.d.fact 96 (f := .cls "Kind") rfl), He.eqO_ok h1, He.eqO_ok h2, of_decide_eq_true h3, of_decide_eq_true h4, of_decide_eq_true h5⟩
  mgC := He.glo_ok X G (c.t.d.fact 9 (f := .glo "Kind") rfl)
  len := He.free_ok X G (c.t.d.fact 83 (f := .free "len") rfl)
  isinstance := He.free_ok X G (c.t.d.fact 78 (f := .free "isinstance") rfl)
  int := He.free_ok X G (c.t.d.fact 79 (f := .free "int") rfl)
  bool := He.free_ok X G (c.t.d.fact 80 (f := .free "bool") rfl)
  str := He.free_ok X G (c.t.d.fact 81 (f := .free "str") rfl)
  list := He.free_ok X G (c.t.d.fact 82 (f := .free "list") rfl)
  sorted := He.free_ok X G (c.t.d.fact 84 (f := .free "sorted") rfl)
  sum := He.free_ok X G (c.t.d.fact 85 (f := .free "sum") rfl)
  abs := He.free_ok X G (c.t.d.fact 86 (f := .free "abs") rfl)
  range := He.free_ok X G (c.t.d.fact 87 (f := .free "range") rfl)
  enumerate := He.free_ok X G (c.t.d.fact 88 (f := .free "enumerate") rfl)
  zip := He.free_ok X G (c.t.d.fact 89 (f := .free "zip") rfl)
  reversed := He.free_ok X G (c.t.d.fact 90 (f := .free "reversed") rfl)
  max := He.free_ok X G (c.t.d.fact 91 (f := .free "max") rfl)
  repr := He.free_ok X G (c.t.d.fact 93 (f := .free "repr") rfl)
  mostC := He.int_ok X G (c.t.d.fact 94 (f := .int "MOST_CROSSINGS" 60) rfl)
  mostL := He.int_ok X G (c.t.d.fact 95 (f := .int "MOST_LAYERS" 8) rfl)
theorem bnd_of (X : K.In h) (G : h.Ns mainGlobals mg) (c : SLH.Says w K) : Bnd K w mg := by
  obtain ⟨es, n, hD⟩ := c.t.tab 0 (t := (fun K => He.ga K "BOUNDS", ["plain", "mirror", "ring"])) rfl
  obtain ⟨h1, h⟩ := He.ba (show (SLH.tupI K (He.ga K "BOUNDS") "plain" 1 7 && _) = true from c.more)
  obtain ⟨h2, h⟩ := He.ba h
  obtain ⟨h3, h⟩ := He.ba h
  refine ⟨He.ga K "BOUNDS", es, n, He.glo_ok X G (c.t.d.fact 5 (f := .glo "BOUNDS") rfl), hD, fun nm => ?_⟩
  cases nm with
  | plain => exact tup_at h1
  | mirror => exact tup_at h2
  | ring => exact tup_at h3
theorem dfn_of {x : Str} {st : Stmt} {i : Nat} (X : K.In h) (G : h.Ns mainGlobals mg) (c : SLH.Says w K) (hf : (He.Fa.glo x).ok K = true) {d : He.DefD} (hd : SLH.fn[i]? = some d) (e : d = ⟨(x, none), x, x, defArgs st, defBody st, defScope st, [], []⟩) : Dfn K mg x st := by
  subst e
  obtain ⟨fd, F⟩ := c.t.d.def_ i hd
  exact ⟨He.ga K x, fd, He.glo_ok X G hf, F⟩
theorem defs_of (X : K.In h) (G : h.Ns mainGlobals mg) (c : SLH.Says w K) : Defs K mg where
  D_check_kind := dfn_of (i := 8) X G c (c.t.d.fact 10 (f := .glo "check_kind") rfl) (d := SLH.d8) rfl rfl
  D_is_crossed := dfn_of (i := 9) X G c (c.t.d.fact 11 (f := .glo "is_crossed") rfl) (d := SLH.d9) rfl rfl
  D_by_step := dfn_of (i := 10) X G c (c.t.d.fact 12 (f := .glo "by_step") rfl) (d := SLH.d10) rfl rfl
  D_item_at := dfn_of (i := 11) X G c (c.t.d.fact 13 (f := .glo "item_at") rfl) (d := SLH.d11) rfl rfl
  D_product_of := dfn_of (i := 12) X G c (c.t.d.fact 14 (f := .glo "product_of") rfl) (d := SLH.d12) rfl rfl
  D_ahead_of := dfn_of (i := 14) X G c (c.t.d.fact 16 (f := .glo "ahead_of") rfl) (d := SLH.d14) rfl rfl
  D_opposite_of := dfn_of (i := 13) X G c (c.t.d.fact 15 (f := .glo "opposite_of") rfl) (d := SLH.d13) rfl rfl
  D_falls_of := dfn_of (i := 15) X G c (c.t.d.fact 17 (f := .glo "falls_of") rfl) (d := SLH.d15) rfl rfl
  D_heads_of := dfn_of (i := 16) X G c (c.t.d.fact 18 (f := .glo "heads_of") rfl) (d := SLH.d16) rfl rfl
  D_crossings_between := dfn_of (i := 18) X G c (c.t.d.fact 20 (f := .glo "crossings_between") rfl) (d := SLH.d18) rfl rfl
  D_crossings_of := dfn_of (i := 17) X G c (c.t.d.fact 19 (f := .glo "crossings_of") rfl) (d := SLH.d17) rfl rfl
  D_is_whole := dfn_of (i := 0) X G c (c.t.d.fact 6 (f := .glo "is_whole") rfl) (d := SLH.d0) rfl rfl
  D_is_order_list := dfn_of (i := 19) X G c (c.t.d.fact 21 (f := .glo "is_order_list") rfl) (d := SLH.d19) rfl rfl
  D_is_let_order := dfn_of (i := 20) X G c (c.t.d.fact 22 (f := .glo "is_let_order") rfl) (d := SLH.d20) rfl rfl
  D_least_row_of := dfn_of (i := 21) X G c (c.t.d.fact 23 (f := .glo "least_row_of") rfl) (d := SLH.d21) rfl rfl
  D_gain := dfn_of (i := 22) X G c (c.t.d.fact 24 (f := .glo "gain") rfl) (d := SLH.d22) rfl rfl
  D_gained_all := dfn_of (i := 24) X G c (c.t.d.fact 26 (f := .glo "gained_all") rfl) (d := SLH.d24) rfl rfl
  D_greedy_of := dfn_of (i := 23) X G c (c.t.d.fact 25 (f := .glo "greedy_of") rfl) (d := SLH.d23) rfl rfl
  D_wholes_of := dfn_of (i := 25) X G c (c.t.d.fact 27 (f := .glo "wholes_of") rfl) (d := SLH.d25) rfl rfl
  D_whole_of := dfn_of (i := 26) X G c (c.t.d.fact 28 (f := .glo "whole_of") rfl) (d := SLH.d26) rfl rfl
  D_is_let_standing := dfn_of (i := 27) X G c (c.t.d.fact 29 (f := .glo "is_let_standing") rfl) (d := SLH.d27) rfl rfl
  D_check_standing := dfn_of (i := 28) X G c (c.t.d.fact 30 (f := .glo "check_standing") rfl) (d := SLH.d28) rfl rfl
  D_check_two_standings := dfn_of (i := 29) X G c (c.t.d.fact 31 (f := .glo "check_two_standings") rfl) (d := SLH.d29) rfl rfl
  D_copied := dfn_of (i := 30) X G c (c.t.d.fact 32 (f := .glo "copied") rfl) (d := SLH.d30) rfl rfl
  D_turned_of := dfn_of (i := 31) X G c (c.t.d.fact 33 (f := .glo "turned_of") rfl) (d := SLH.d31) rfl rfl
  D_turned := dfn_of (i := 34) X G c (c.t.d.fact 36 (f := .glo "turned") rfl) (d := SLH.d34) rfl rfl
  D_deeds_of := dfn_of (i := 32) X G c (c.t.d.fact 34 (f := .glo "deeds_of") rfl) (d := SLH.d32) rfl rfl
  D_behind_deed := dfn_of (i := 33) X G c (c.t.d.fact 35 (f := .glo "behind_deed") rfl) (d := SLH.d33) rfl rfl
  D_are_joined := dfn_of (i := 35) X G c (c.t.d.fact 37 (f := .glo "are_joined") rfl) (d := SLH.d35) rfl rfl
  D_last_layer := dfn_of (i := 36) X G c (c.t.d.fact 38 (f := .glo "last_layer") rfl) (d := SLH.d36) rfl rfl
  D_deeds_up := dfn_of (i := 37) X G c (c.t.d.fact 39 (f := .glo "deeds_up") rfl) (d := SLH.d37) rfl rfl
  D_deeds_down := dfn_of (i := 38) X G c (c.t.d.fact 40 (f := .glo "deeds_down") rfl) (d := SLH.d38) rfl rfl
  D_way_of := dfn_of (i := 39) X G c (c.t.d.fact 41 (f := .glo "way_of") rfl) (d := SLH.d39) rfl rfl
  D_joined := dfn_of (i := 40) X G c (c.t.d.fact 42 (f := .glo "joined") rfl) (d := SLH.d40) rfl rfl
  D_way := dfn_of (i := 41) X G c (c.t.d.fact 43 (f := .glo "way") rfl) (d := SLH.d41) rfl rfl
  D_uppermost := dfn_of (i := 42) X G c (c.t.d.fact 44 (f := .glo "uppermost") rfl) (d := SLH.d42) rfl rfl
  D_lowermost := dfn_of (i := 43) X G c (c.t.d.fact 45 (f := .glo "lowermost") rfl) (d := SLH.d43) rfl rfl
  D_height_of := dfn_of (i := 44) X G c (c.t.d.fact 46 (f := .glo "height_of") rfl) (d := SLH.d44) rfl rfl
  D_depth_of := dfn_of (i := 45) X G c (c.t.d.fact 47 (f := .glo "depth_of") rfl) (d := SLH.d45) rfl rfl
  D_leads_up := dfn_of (i := 46) X G c (c.t.d.fact 48 (f := .glo "leads_up") rfl) (d := SLH.d46) rfl rfl
  D_steps_up := dfn_of (i := 47) X G c (c.t.d.fact 49 (f := .glo "steps_up") rfl) (d := SLH.d47) rfl rfl
  D_far_above := dfn_of (i := 48) X G c (c.t.d.fact 50 (f := .glo "far_above") rfl) (d := SLH.d48) rfl rfl
  D_far_below := dfn_of (i := 49) X G c (c.t.d.fact 51 (f := .glo "far_below") rfl) (d := SLH.d49) rfl rfl
  D_way_up := dfn_of (i := 50) X G c (c.t.d.fact 52 (f := .glo "way_up") rfl) (d := SLH.d50) rfl rfl
  D__law_steps := dfn_of (i := 56) X G c (c.t.d.fact 58 (f := .glo "_law_steps") rfl) (d := SLH.d56) rfl rfl
  D__law_start := dfn_of (i := 57) X G c (c.t.d.fact 59 (f := .glo "_law_start") rfl) (d := SLH.d57) rfl rfl
  D__law_fall := dfn_of (i := 58) X G c (c.t.d.fact 60 (f := .glo "_law_fall") rfl) (d := SLH.d58) rfl rfl
  D__law_by := dfn_of (i := 59) X G c (c.t.d.fact 61 (f := .glo "_law_by") rfl) (d := SLH.d59) rfl rfl
  D__law_falls := dfn_of (i := 60) X G c (c.t.d.fact 62 (f := .glo "_law_falls") rfl) (d := SLH.d60) rfl rfl
  D__law_row := dfn_of (i := 61) X G c (c.t.d.fact 63 (f := .glo "_law_row") rfl) (d := SLH.d61) rfl rfl
  D__law_made := dfn_of (i := 62) X G c (c.t.d.fact 64 (f := .glo "_law_made") rfl) (d := SLH.d62) rfl rfl
  D__law_back := dfn_of (i := 63) X G c (c.t.d.fact 65 (f := .glo "_law_back") rfl) (d := SLH.d63) rfl rfl
  D__law_ahead := dfn_of (i := 64) X G c (c.t.d.fact 66 (f := .glo "_law_ahead") rfl) (d := SLH.d64) rfl rfl
  D__law_heads := dfn_of (i := 65) X G c (c.t.d.fact 67 (f := .glo "_law_heads") rfl) (d := SLH.d65) rfl rfl
  D__law_greedy := dfn_of (i := 66) X G c (c.t.d.fact 68 (f := .glo "_law_greedy") rfl) (d := SLH.d66) rfl rfl
  D__law_wholes := dfn_of (i := 67) X G c (c.t.d.fact 69 (f := .glo "_law_wholes") rfl) (d := SLH.d67) rfl rfl
  D__law_deeds := dfn_of (i := 70) X G c (c.t.d.fact 72 (f := .glo "_law_deeds") rfl) (d := SLH.d70) rfl rfl
  D__law_done := dfn_of (i := 71) X G c (c.t.d.fact 73 (f := .glo "_law_done") rfl) (d := SLH.d71) rfl rfl
  D__law_each_seam_right := dfn_of (i := 73) X G c (c.t.d.fact 75 (f := .glo "_law_each_seam_right") rfl) (d := SLH.d73) rfl rfl
  D__law_hash := dfn_of (i := 51) X G c (c.t.d.fact 53 (f := .glo "_law_hash") rfl) (d := SLH.d51) rfl rfl
  D__law_random := dfn_of (i := 52) X G c (c.t.d.fact 54 (f := .glo "_law_random") rfl) (d := SLH.d52) rfl rfl
  D__law_cell := dfn_of (i := 53) X G c (c.t.d.fact 55 (f := .glo "_law_cell") rfl) (d := SLH.d53) rfl rfl
  D__law_generator := dfn_of (i := 54) X G c (c.t.d.fact 56 (f := .glo "_law_generator") rfl) (d := SLH.d54) rfl rfl
  D__law_kind := dfn_of (i := 55) X G c (c.t.d.fact 57 (f := .glo "_law_kind") rfl) (d := SLH.d55) rfl rfl
  D__law_order := dfn_of (i := 68) X G c (c.t.d.fact 70 (f := .glo "_law_order") rfl) (d := SLH.d68) rfl rfl
  D__law_standing := dfn_of (i := 69) X G c (c.t.d.fact 71 (f := .glo "_law_standing") rfl) (d := SLH.d69) rfl rfl
  D__law_walked := dfn_of (i := 72) X G c (c.t.d.fact 74 (f := .glo "_law_walked") rfl) (d := SLH.d72) rfl rfl
  D_is_between := dfn_of (i := 1) X G c (c.t.d.fact 7 (f := .glo "is_between") rfl) (d := SLH.d1) rfl rfl
  D_check_number := dfn_of (i := 2) X G c (c.t.d.fact 8 (f := .glo "check_number") rfl) (d := SLH.d2) rfl rfl
  D__law_good := dfn_of (i := 74) X G c (c.t.d.fact 76 (f := .glo "_law_good") rfl) (d := SLH.d74) rfl rfl
theorem mths_of (c : SLH.Says w K) : Mths K (He.ga K "Kind") where
  mkr := by
    obtain ⟨fd, F⟩ := c.t.d.def_ 3 (d := SLH.d3) rfl
    exact ⟨_, fd, He.mkr_ok (c.t.d.fact 99 (f := .mkr "Kind") rfl), F⟩
  name := by
    obtain ⟨fd, F⟩ := c.t.d.def_ 4 (d := SLH.d4) rfl
    exact ⟨_, fd, He.meth_ok (c.t.d.fact 100 (f := .meth "Kind" "name") rfl), F⟩
  size := by
    obtain ⟨fd, F⟩ := c.t.d.def_ 5 (d := SLH.d5) rfl
    exact ⟨_, fd, He.meth_ok (c.t.d.fact 101 (f := .meth "Kind" "size") rfl), F⟩
  steps := by
    obtain ⟨fd, F⟩ := c.t.d.def_ 6 (d := SLH.d6) rfl
    exact ⟨_, fd, He.meth_ok (c.t.d.fact 102 (f := .meth "Kind" "steps") rfl), F⟩
  start := by
    obtain ⟨fd, F⟩ := c.t.d.def_ 7 (d := SLH.d7) rfl
    exact ⟨_, fd, He.meth_ok (c.t.d.fact 103 (f := .meth "Kind" "start") rfl), F⟩
theorem law_facts {P : Program} {f : Addr} (X : K.In h) (G : h.Ns mainGlobals mg) (hfa : mg ("law" : Str) = some (.ref f)) (c : SLH.Says w K) :
    ∃ fd : FuncData, (∀ (s : Shared) (v : Value), BindsTo s fd ⟨[v], []⟩ [("_law_script", v)]) ∧ ∀ base : Heap, K.In base → base.Ns mainGlobals mg → FnG P w K mg base 13 f fd ["_law_script"] (spLaw K) := by
  obtain ⟨fd, F⟩ := c.t.d.def_ 75 (d := SLH.d75) rfl
  have e := hfa.symm.trans (He.glo_ok X G (c.t.d.fact 77 (f := .glo "law") rfl))
  cases e
  have b := FunD.bindsA (ps := ["_law_script"]) F fun _ _ _ _ _ _ us hl => match us, hl with | [_], _ => rfl
  exact ⟨fd, fun s v => b s [v] rfl, fun base _ _ => law_fn (tp_of X G c) (bnd_of X G c) (defs_of X G c) (mths_of c) F⟩
end
end SL
end
section
set_option Elab.async false
set_option linter.all false
set_option maxRecDepth 100000
set_option maxHeartbeats 4000000
set_option autoImplicit false
/-! The end, from a promise that asks that no repr is under way. -/
namespace SL
open PySem PySem.Spec PyProof.Rows L2
theorem law_callG {P : Program} {w : World} {K : PySem.W.Frag} {mg mb : Str → Option Value} {k : Nat} {fa a : Addr} {fd : FuncData} {x : Str} {sp : Sp} {s₁ : Shared} {vs : List Value} {ns : List Int}
    (KX : K.In s₁.heap) (hns : s₁.heap.Ns mainGlobals mg) (hb : s₁.heap.Ns builtinsNs mb) (hbb : ∀ x : Str, x ≠ "__name__" → mb x = bootBuiltins x) (hlim : s₁.heap.NoLimit) (hg : s₁.gens = #[])
    (ha : s₁.heap.get? a = some { cls := .type "list", data := .seq vs.toArray }) (hi : IntsAre vs ns) (hl : ns.length ≤ sizeLine) (hr : Room k callerA)
    (F : ∀ base : Heap, K.In base → base.Ns mainGlobals mg → FnG P w K mg base k fa fd [x] sp) (hbind : ∀ (s : Shared) (u : Value), BindsTo s fd ⟨[u], []⟩ [(x, u)])
    (hsp : ∀ H : Hp, Only H → SqL K H a (ns.map V.int) → sp [.ref a] H (fun v _ => v = .bl true) fun _ _ _ => False)
    (hCX : ∀ H e s', CX0 [] H s₁ (fun _ _ _ => False) e s' → False) :
    codeAny (model P w) callerA (.call (.ref fa) ⟨[.ref a], []⟩) (fun r s' => r = .ok (.ret (.bool true)) ∧ OldK s₁.heap s'.heap ∧ s'.os = s₁.os ∧ AllBare s'.gens) s₁ := by
  have rv := vals_ints hi
  have lenV := hi.length
  have core : ∀ H : Hp, Only H → SqL K H a (ns.map V.int) → HOk P w H s₁.heap → (∀ b, H b ≠ none → b = a) → (H a ≠ none → K.lookup a = none) →
      codeAny (model P w) callerA (.call (.ref fa) ⟨[.ref a], []⟩) (fun r s' => r = .ok (.ret (.bool true)) ∧ OldK s₁.heap s'.heap ∧ s'.os = s₁.os ∧ AllBare s'.gens) s₁ := by
    intro H hO hS hok hA hK
    have free : ∀ {b : Addr} {o : Obj}, s₁.heap.get? b = some o → (∀ vs n, o.data ≠ .seq vs n) → H b = none := fun {b o} e hd => by
      cases q : H b with
      | none => rfl
      | some u =>
        have e' : b = a := hA b (by rw [q]; simp)
        subst e'
        rw [ha] at e; cases e
        exact absurd rfl (hd _ _)
    have nsK : ∀ {b : Addr} {m : Str → Option Value}, s₁.heap.Ns b m → (hidT s₁.heap H).Ns b m := fun {b m} ⟨o, es, ep, e, d, r⟩ => ⟨o, es, ep, hidT_get e (free e fun vs n z => by rw [d] at z; cases z), d, r⟩
    have hKb : K.In (hidT s₁.heap H) := fun b o e => hidT_get (KX b o e) (by
      cases q : H b with
      | none => rfl
      | some u =>
        have e' : b = a := hA b (by rw [q]; simp)
        subst e'
        rw [hK (by rw [q]; simp)] at e; cases e)
    have hM : Mod K mg (hidT s₁.heap H) := ⟨hKb, nsK hns, ⟨mb, nsK hb, hbb⟩, let ⟨mc, h1, h2⟩ := hlim; ⟨mc, nsK h1, h2⟩⟩
    have e0 : Env0 P w K mg (hidT s₁.heap H) callerA [] s₁ H := ⟨rfl, hM, fun b o e => of_hidT e, Nat.le_of_eq (hidT_size _ _), trivial, fun b hb => absurd (show b ∈ ([] : List Addr) from hb) (by simp), hok, .of_eq hg⟩
    refine codeAny_mono ((F _ hKb (nsK hns)).run callerA [] s₁ H ⟨[.ref a], []⟩ [.ref a] [.ref a] _ _ rfl hr e0 (hbind s₁ (.ref a)) (.cons rfl .nil) (hsp H hO hS)) fun r s' h => ?_
    match r, h with
    | .error e, h => exact (hCX H e s' h).elim
    | .ok .next, h => exact h.elim
    | .ok .brk, h => exact h.elim
    | .ok .cont, h => exact h.elim
    | .ok (.ret u), h =>
      obtain ⟨v, H', os, bare, un, hok', r', q⟩ := h
      have q' : v = .bl true := q
      subst q'
      obtain rfl : u = Value.bool true := r'
      refine ⟨rfl, OldK.of_keep fun b o e => ?_, os, bare⟩
      cases q : H b with
      | none => exact un.keep b o e q (by intro z; exact absurd (show b ∈ ([] : List Addr) from z) (by simp)) (by simp)
      | some u =>
        rcases hO b with z | ⟨ob, xs, z⟩
        · rw [q] at z; cases z
        · obtain ⟨e1, _⟩ := hok b _ z
          obtain ⟨e2, _⟩ := hok' b _ (un.frzs b ob _ z)
          rw [e] at e1; cases e1
          exact e2
  cases hk : K.lookup a with
  | some o =>
    have e := KX a o hk
    rw [ha] at e
    cases e
    exact core (fun _ => none) (fun _ => .inl rfl) (.inr ⟨_, vs.toArray, _, hk, rfl, rfl, rfl, by rw [List.size_toArray, lenV]; exact hl, by simpa using rv⟩) (fun b u z => nomatch (show (none : Option HO) = some u from z)) (fun b z => absurd rfl z) fun z => absurd rfl z
  | none =>
    refine core (fun b => if b = a then some (.frz { cls := .type "list", data := .seq vs.toArray } (.lst (ns.map V.int))) else none) (fun b => ?_) (.inl (.inr ⟨{ cls := .type "list", data := .seq vs.toArray }, if_pos rfl⟩)) (fun b u z => ?_) (fun b z => ?_) fun _ => hk
    · by_cases hb : b = a
      · exact .inr ⟨_, _, if_pos hb⟩
      · exact .inl (if_neg hb)
    · by_cases hb : b = a
      · cases (if_pos hb).symm.trans z
        subst hb
        exact ⟨ha, by rw [List.length_map]; exact hl, vs, _, rv, ha⟩
      · cases (if_neg hb).symm.trans z
    · by_cases hb : b = a
      · exact hb
      · exact absurd (if_neg hb) z
/-- a law: F gives the written part, the function object, the promise over every base -/
theorem walk_ofG {l : PySem.W.OpenLaw} {n k : Nat} {q : Program} {loose : List Str} {XP : (Str → Option Value) → Heap → Prop} {YP : World → Heap → Prop} {d : DefRec} {x : Str}
    (hn : l.most = some n) (hn2 : n ≤ sizeLine) (hdf : d.params.defaults = []) (hr : Room k callerA)
    (F : ∀ (w : World) (mg : Str → Option Value) (fa : Addr) (h : Heap), YP w h → h.Ns mainGlobals mg → mg d.name = some (.ref fa) →
      ∃ (K : PySem.W.Frag) (fd : FuncData) (sp : Sp), K.In h ∧ (∀ (s : Shared) (u : Value), BindsTo s fd ⟨[u], []⟩ [(x, u)]) ∧
        (∀ (H : Hp) (a : Addr) (ns : List Int), ns.length ≤ n → Only H → SqL K H a (ns.map V.int) → sp [.ref a] H (fun v _ => v = .bl true) fun _ _ _ => False) ∧
        ∀ base : Heap, K.In base → base.Ns mainGlobals mg → FnG l.prog w K mg base k fa fd [x] sp) :
    PySem.W.WalkO q loose XP YP l.row.toRowW d [] (fun f vs => PySem.call f vs) := by
  refine Att.attach_call hn hdf fun w s₀ s₁ mg mb fa o pm cd doc a vs ns G Y ho hd hcd hmg hobj hints hlen hg => ?_
  obtain ⟨K, fd, sp, KX, hb, hsp, hF⟩ := F w mg fa _ Y G.T.g hmg
  exact law_callG KX G.T.g G.T.b G.T.builtins G.T.nolimit hg hobj hints (Nat.le_trans hlen hn2) hr hF hb (fun H hO hS => hsp H a ns hlen hO hS) fun H e s' z => z
end SL
end
set_option Elab.async false
set_option linter.all false
set_option maxRecDepth 100000
set_option maxHeartbeats 0
open PySem PySem.W PySem.Calls PyProof.Rows
theorem PySem.Challenge.cw_seamlayers_k34_whole_ends_of_classes_holds : PySem.Challenge.rw_seamlayers_k34_whole_ends_of_classes.Holds := by
  w_on; o_law
  refine HandSHeadRun.head_any (r := OpenLaw.row PySem.Challenge.rw_seamlayers_k34_whole_ends_of_classes) (q := view (OpenLaw.row PySem.Challenge.rw_seamlayers_k34_whole_ends_of_classes).prog [87]) (H := SLH.hk) (ob := SLH.ob) (M := 4000) (loose := SLH.lo) (d := HandSHeadRun.topDef (OpenLaw.row PySem.Challenge.rw_seamlayers_k34_whole_ends_of_classes).prog 87) (kwd := []) SLH.ob_eq
    (by kernel_rfl) (fun s => by kernel_rfl) SLH.run (by kernel_rfl) (by kernel_rfl) (by kernel_rfl) (by rfl) (by first | assumption | decide +kernel) (by decide +kernel) ⟨rfl, rfl, rfl, rfl, rfl, by decide +kernel⟩ ?hw ?hc
  case hw => w_witness2
  case hc =>
    refine SL.walk_ofG (l := PySem.Challenge.rw_seamlayers_k34_whole_ends_of_classes) (n := 63) (k := 13) (x := "_law_script") rfl (by decide) (by kernel_rfl) ⟨rfl, by decide, by decide⟩ ?F
    intro w mg fa h Y G hmg0
    obtain ⟨K, KX, c⟩ := Y
    have hmg : mg ("law" : PySem.Str) = some (.ref fa) := by
      have e : (HandSHeadRun.topDef (OpenLaw.row PySem.Challenge.rw_seamlayers_k34_whole_ends_of_classes).prog 87).name = ("law" : PySem.Str) := by kernel_rfl
      rw [← e]
      exact hmg0
    obtain ⟨fd, hb, hF⟩ := SL.law_facts (P := (PySem.Challenge.rw_seamlayers_k34_whole_ends_of_classes).prog) KX G hmg c
    exact ⟨K, fd, SL.spLaw K, KX, hb, fun H a ns hl _ hS => ⟨_, ns, rfl, ⟨a, rfl, hS⟩, fun _ _ => rfl⟩, hF⟩
