import PyProof.Rows.All
import Wide.All
import OpenK.AllK
import Wide.FinOn
import KE.KStateDown
import KE.DatumOrd
import KE.DataMinMax
import HandS.ForMost
import HandS.Walk
import HandS.Zip
import HandS.Flow
import HandS.Wide
import HandS.Conv
import HandS.SortKw
import HandS.ReplaceLit
import HandS.ReplaceDef
import HandS.ReplaceList
import HandS.ClsMeth
import HandS.IsInst
import HandS.Codes
import HandS.Defaults
import HandS.Exc
import HandS.Head0
import HandS.Head1
import HandS.Head2
import HandS.HeadEnd
import HandS.HeadHook1
import HandS.HeadHook2
import HandS.Text
import PySem.Challenge.RW_macrohouse_k41_numbers_names_calls
set_option Elab.async false
set_option linter.all false
set_option maxRecDepth 100000
set_option maxHeartbeats 4000000
namespace Mh
open PySem PySem.Spec PyProof.Rows L2
/-! ### the text by places -/
def top (i : Nat) : Stmt := PySem.Challenge.pw_macrohouse_k41_numbers_names_calls.main.body.getD i (.Pass ⟨0, 0, 0, 0⟩)
abbrev s_first_wrong : Stmt := top 10
abbrev s_number_places : Stmt := top 12
abbrev s_core_of : Stmt := top 13
abbrev s_outcome : Stmt := top 14
abbrev s_within : Stmt := top 16
abbrev s_is_name : Stmt := top 28
abbrev s_only : Stmt := top 35
abbrev s_is_word : Stmt := top 36
abbrev s_is_number : Stmt := top 37
abbrev s_signs_of : Stmt := top 38
abbrev s_leaf : Stmt := top 39
abbrev s_read : Stmt := top 40
abbrev s_come_to_plain : Stmt := top 69
abbrev s_come_to_form : Stmt := top 70
abbrev s_come_to_word : Stmt := top 77
abbrev s_come_to_call : Stmt := top 78
abbrev s_come_to_headed : Stmt := top 79
abbrev s_come_to : Stmt := top 80
abbrev s_turn : Stmt := top 81
abbrev s_make : Stmt := top 82
abbrev s_law_cell : Stmt := top 84
abbrev s_law_whole : Stmt := top 85
abbrev s_law_names : Stmt := top 86
abbrev s_law_alike : Stmt := top 87
abbrev s_law_all_alike : Stmt := top 88
abbrev s_law_leaf : Stmt := top 89
abbrev s_law_tree : Stmt := top 90
abbrev s_law : Stmt := top 91
abbrev sClaims_init : Stmt := inClass (top 18) 0
abbrev sClaims_put : Stmt := inClass (top 18) 1
abbrev sClaims_open_to : Stmt := inClass (top 18) 2
abbrev sClaims_is_under : Stmt := inClass (top 18) 3
abbrev sClaims_claim_of : Stmt := inClass (top 18) 4
abbrev sSpot_init : Stmt := inClass (top 21) 0
abbrev sSpot_settle : Stmt := inClass (top 21) 1
abbrev sSpot_spread : Stmt := inClass (top 21) 3
abbrev sMaker_init : Stmt := inClass (top 22) 0
abbrev sMaker_ask : Stmt := inClass (top 22) 2
abbrev sMaker_meaning : Stmt := inClass (top 22) 3
abbrev sMaker_place : Stmt := inClass (top 22) 4
abbrev sMaker_top : Stmt := inClass (top 22) 5
abbrev sMaker_put : Stmt := inClass (top 22) 7
abbrev sTree_init : Stmt := inClass (top 24) 0
abbrev sWord_init : Stmt := inClass (top 25) 0
abbrev sFigure_init : Stmt := inClass (top 26) 0
abbrev sRow_init : Stmt := inClass (top 27) 0
def d_first_wrong : He.DefD := ⟨("first_wrong", none), "first_wrong", "first_wrong", defArgs s_first_wrong, defBody s_first_wrong, defScope s_first_wrong, [], []⟩
def d_number_places : He.DefD := ⟨("number_places", none), "number_places", "number_places", defArgs s_number_places, defBody s_number_places, defScope s_number_places, [], []⟩
def d_core_of : He.DefD := ⟨("core_of", none), "core_of", "core_of", defArgs s_core_of, defBody s_core_of, defScope s_core_of, [], []⟩
def d_outcome : He.DefD := ⟨("outcome", none), "outcome", "outcome", defArgs s_outcome, defBody s_outcome, defScope s_outcome, [], []⟩
def d_within : He.DefD := ⟨("within", none), "within", "within", defArgs s_within, defBody s_within, defScope s_within, [], []⟩
def d_is_name : He.DefD := ⟨("is_name", none), "is_name", "is_name", defArgs s_is_name, defBody s_is_name, defScope s_is_name, [], []⟩
def d_only : He.DefD := ⟨("only", none), "only", "only", defArgs s_only, defBody s_only, defScope s_only, [], []⟩
def d_is_word : He.DefD := ⟨("is_word", none), "is_word", "is_word", defArgs s_is_word, defBody s_is_word, defScope s_is_word, [], []⟩
def d_is_number : He.DefD := ⟨("is_number", none), "is_number", "is_number", defArgs s_is_number, defBody s_is_number, defScope s_is_number, [], []⟩
def d_signs_of : He.DefD := ⟨("signs_of", none), "signs_of", "signs_of", defArgs s_signs_of, defBody s_signs_of, defScope s_signs_of, [], []⟩
def d_leaf : He.DefD := ⟨("leaf", none), "leaf", "leaf", defArgs s_leaf, defBody s_leaf, defScope s_leaf, [], []⟩
def d_read : He.DefD := ⟨("read", none), "read", "read", defArgs s_read, defBody s_read, defScope s_read, [], []⟩
def d_come_to_plain : He.DefD := ⟨("come_to_plain", none), "come_to_plain", "come_to_plain", defArgs s_come_to_plain, defBody s_come_to_plain, defScope s_come_to_plain, [], []⟩
def d_come_to_form : He.DefD := ⟨("come_to_form", none), "come_to_form", "come_to_form", defArgs s_come_to_form, defBody s_come_to_form, defScope s_come_to_form, [], []⟩
def d_come_to_word : He.DefD := ⟨("come_to_word", none), "come_to_word", "come_to_word", defArgs s_come_to_word, defBody s_come_to_word, defScope s_come_to_word, [], []⟩
def d_come_to_call : He.DefD := ⟨("come_to_call", none), "come_to_call", "come_to_call", defArgs s_come_to_call, defBody s_come_to_call, defScope s_come_to_call, [], []⟩
def d_come_to_headed : He.DefD := ⟨("come_to_headed", none), "come_to_headed", "come_to_headed", defArgs s_come_to_headed, defBody s_come_to_headed, defScope s_come_to_headed, [], []⟩
def d_come_to : He.DefD := ⟨("come_to", none), "come_to", "come_to", defArgs s_come_to, defBody s_come_to, defScope s_come_to, [], []⟩
def d_turn : He.DefD := ⟨("turn", none), "turn", "turn", defArgs s_turn, defBody s_turn, defScope s_turn, [], []⟩
def d_make : He.DefD := ⟨("make", none), "make", "make", defArgs s_make, defBody s_make, defScope s_make, [.non], []⟩
def d_law_cell : He.DefD := ⟨("_law_cell", none), "_law_cell", "_law_cell", defArgs s_law_cell, defBody s_law_cell, defScope s_law_cell, [], []⟩
def d_law_whole : He.DefD := ⟨("_law_whole", none), "_law_whole", "_law_whole", defArgs s_law_whole, defBody s_law_whole, defScope s_law_whole, [], []⟩
def d_law_names : He.DefD := ⟨("_law_names", none), "_law_names", "_law_names", defArgs s_law_names, defBody s_law_names, defScope s_law_names, [], []⟩
def d_law_alike : He.DefD := ⟨("_law_alike", none), "_law_alike", "_law_alike", defArgs s_law_alike, defBody s_law_alike, defScope s_law_alike, [], []⟩
def d_law_all_alike : He.DefD := ⟨("_law_all_alike", none), "_law_all_alike", "_law_all_alike", defArgs s_law_all_alike, defBody s_law_all_alike, defScope s_law_all_alike, [], []⟩
def d_law_leaf : He.DefD := ⟨("_law_leaf", none), "_law_leaf", "_law_leaf", defArgs s_law_leaf, defBody s_law_leaf, defScope s_law_leaf, [], []⟩
def d_law_tree : He.DefD := ⟨("_law_tree", none), "_law_tree", "_law_tree", defArgs s_law_tree, defBody s_law_tree, defScope s_law_tree, [], []⟩
def d_law : He.DefD := ⟨("law", none), "law", "law", defArgs s_law, defBody s_law, defScope s_law, [], []⟩
def dClaims_init : He.DefD := ⟨("Claims", some "__init__"), "__init__", "Claims.__init__", defArgs sClaims_init, defBody sClaims_init, defScope sClaims_init, [], []⟩
def dClaims_put : He.DefD := ⟨("Claims", some "put"), "put", "Claims.put", defArgs sClaims_put, defBody sClaims_put, defScope sClaims_put, [], []⟩
def dClaims_open_to : He.DefD := ⟨("Claims", some "open_to"), "open_to", "Claims.open_to", defArgs sClaims_open_to, defBody sClaims_open_to, defScope sClaims_open_to, [], []⟩
def dClaims_is_under : He.DefD := ⟨("Claims", some "is_under"), "is_under", "Claims.is_under", defArgs sClaims_is_under, defBody sClaims_is_under, defScope sClaims_is_under, [], []⟩
def dClaims_claim_of : He.DefD := ⟨("Claims", some "claim_of"), "claim_of", "Claims.claim_of", defArgs sClaims_claim_of, defBody sClaims_claim_of, defScope sClaims_claim_of, [], []⟩
def dSpot_init : He.DefD := ⟨("Spot", some "__init__"), "__init__", "Spot.__init__", defArgs sSpot_init, defBody sSpot_init, defScope sSpot_init, [], []⟩
def dSpot_settle : He.DefD := ⟨("Spot", some "settle"), "settle", "Spot.settle", defArgs sSpot_settle, defBody sSpot_settle, defScope sSpot_settle, [.non], []⟩
def dSpot_spread : He.DefD := ⟨("Spot", some "spread"), "spread", "Spot.spread", defArgs sSpot_spread, defBody sSpot_spread, defScope sSpot_spread, [], []⟩
def dMaker_init : He.DefD := ⟨("Maker", some "__init__"), "__init__", "Maker.__init__", defArgs sMaker_init, defBody sMaker_init, defScope sMaker_init, [.int 40], []⟩
def dMaker_ask : He.DefD := ⟨("Maker", some "ask"), "ask", "Maker.ask", defArgs sMaker_ask, defBody sMaker_ask, defScope sMaker_ask, [], []⟩
def dMaker_meaning : He.DefD := ⟨("Maker", some "meaning"), "meaning", "Maker.meaning", defArgs sMaker_meaning, defBody sMaker_meaning, defScope sMaker_meaning, [], []⟩
def dMaker_place : He.DefD := ⟨("Maker", some "place"), "place", "Maker.place", defArgs sMaker_place, defBody sMaker_place, defScope sMaker_place, [], []⟩
def dMaker_top : He.DefD := ⟨("Maker", some "top"), "top", "Maker.top", defArgs sMaker_top, defBody sMaker_top, defScope sMaker_top, [], []⟩
def dMaker_put : He.DefD := ⟨("Maker", some "put"), "put", "Maker.put", defArgs sMaker_put, defBody sMaker_put, defScope sMaker_put, [], []⟩
def dTree_init : He.DefD := ⟨("Tree", some "__init__"), "__init__", "Tree.__init__", defArgs sTree_init, defBody sTree_init, defScope sTree_init, [], []⟩
def dWord_init : He.DefD := ⟨("Word", some "__init__"), "__init__", "Word.__init__", defArgs sWord_init, defBody sWord_init, defScope sWord_init, [.int 0], []⟩
def dFigure_init : He.DefD := ⟨("Figure", some "__init__"), "__init__", "Figure.__init__", defArgs sFigure_init, defBody sFigure_init, defScope sFigure_init, [], []⟩
def dRow_init : He.DefD := ⟨("Row", some "__init__"), "__init__", "Row.__init__", defArgs sRow_init, defBody sRow_init, defScope sRow_init, [], []⟩
def fn0 : List He.DefD := [d_first_wrong, d_number_places, d_core_of, d_outcome, d_within, d_is_name, d_only, d_is_word, d_is_number, d_signs_of, d_leaf, d_read, d_come_to_plain, d_come_to_form, d_come_to_word, d_come_to_call, d_come_to_headed, d_come_to, d_turn, d_make, d_law_cell, d_law_whole, d_law_names, d_law_alike, d_law_all_alike]
def fn1 : List He.DefD := [d_law_leaf, d_law_tree, d_law, dClaims_init, dClaims_put, dClaims_open_to, dClaims_is_under, dClaims_claim_of, dSpot_init, dSpot_settle, dSpot_spread, dMaker_init, dMaker_ask, dMaker_meaning, dMaker_place, dMaker_top, dMaker_put, dTree_init, dWord_init, dFigure_init, dRow_init]
def fn : List He.DefD := fn0 ++ fn1
def fa0 : List He.Fa := [.glo "first_wrong", .glo "number_places", .glo "core_of", .glo "outcome", .glo "within", .glo "is_name", .glo "only", .glo "is_word", .glo "is_number", .glo "signs_of", .glo "leaf", .glo "read", .glo "come_to_plain", .glo "come_to_form", .glo "come_to_word", .glo "come_to_call", .glo "come_to_headed", .glo "come_to", .glo "turn", .glo "make", .glo "_law_cell", .glo "_law_whole", .glo "_law_names", .glo "_law_alike", .glo "_law_all_alike", .glo "_law_leaf", .glo "_law_tree", .glo "law", .glo "Claims", .glo "Spot"]
def fa1 : List He.Fa := [.glo "Maker", .glo "Tree", .glo "Word", .glo "Figure", .glo "Row", .glo "CORE", .free "len", .free "tuple", .free "enumerate", .free "sum", .free "max", .free "list", .free "isinstance", .free "range", .free "all", .free "zip", .free "str", .free "int", .free "bool", .int "DEEPEST_reader" 60, .int "LONGEST" 60, .str "LETTERS" "abcdefghijklmnopqrstuvwxyz", .str "FIGURES" "0123456789", .cls "Claims", .cls "Spot", .cls "Maker", .cls "Word", .cls "Figure", .cls "Row", .noat "Claims" "rows"]
def fa2 : List He.Fa := [.noat "Spot" "tree", .noat "Spot" "depth", .noat "Spot" "kind", .noat "Spot" "given", .noat "Spot" "claim", .noat "Spot" "below", .noat "Maker" "most", .noat "Maker" "claims", .noat "Maker" "macros", .noat "Maker" "stretches", .noat "Maker" "steps", .noat "Maker" "asked", .noat "Maker" "roots", .noat "Maker" "waiting", .noat "Maker" "places", .noat "Maker" "tops", .noat "Word" "at", .noat "Word" "many", .noat "Word" "deep", .noat "Word" "name", .noat "Word" "bits", .noat "Figure" "at", .noat "Figure" "many", .noat "Figure" "deep", .noat "Figure" "number", .noat "Row" "at", .noat "Row" "many", .noat "Row" "deep", .noat "Row" "parts", .meth "Claims" "put"]
def fa3 : List He.Fa := [.meth "Claims" "open_to", .meth "Claims" "is_under", .meth "Claims" "claim_of", .meth "Spot" "settle", .meth "Spot" "spread", .meth "Maker" "ask", .meth "Maker" "meaning", .meth "Maker" "place", .meth "Maker" "top", .meth "Maker" "put", .mkr "Claims", .mkr "Spot", .mkr "Maker", .mkr "Word", .mkr "Figure", .mkr "Row", .keep "Tree"]
def fa : List He.Fa := fa0 ++ fa1 ++ fa2 ++ fa3
def lo0 : List Str := ["HouseError", "NoText", "BadForm", "BadRule", "NoRule", "NoFill", "GoesOn", "TwoClaims", "first_wrong", "refused", "number_places", "core_of", "outcome", "within", "Claims", "Macro", "Spot", "Maker", "Tree", "Word"]
def lo1 : List Str := ["Figure", "Row", "is_name", "key_of", "LETTERS", "FIGURES", "DEEPEST_reader", "LONGEST", "only", "is_word", "is_number", "signs_of", "leaf", "read", "is_star", "pieces", "fixed_word", "spread", "variables", "loops"]
def lo2 : List Str := ["template_parts", "lessened", "sound", "check_rule", "words_in", "counts_of", "Filling", "filled", "dealt", "keys_in", "fitted_piece", "fitted", "is_rule", "rules_of", "is_fn", "is_mac", "come_to_fn", "come_to_mac", "come_to_plain", "come_to_form"]
def lo3 : List Str := ["CORE", "LARGEST", "DEEPEST_turns", "first_fit", "come_to_use", "come_to_word", "come_to_call", "come_to_headed", "come_to", "turn", "make", "_law_cell", "_law_whole", "_law_names", "_law_alike", "_law_all_alike", "_law_leaf", "_law_tree"]
def lo : List Str := lo0 ++ lo1 ++ lo2 ++ lo3
/-! what else the walk asks of the text: isinstance of the three tree classes, the tuple CORE, Tree.__init__ read off its class -/
def isB (K : PySem.W.Frag) (x : Str) : Bool := He.eqO (PySem.W.findIn K (.ref (He.ga K x)) "__class__") (some (some (.builtin "object.__class__"))) && decide (PySem.W.mroIn K (He.ga K x) (.type "object") = some true)
def ktB (K : PySem.W.Frag) (x y : Str) (b : Bool) : Bool := decide (PySem.W.kitOne K (.ref (He.ga K x)) (.ref (He.ga K y)) = some b)
def exB (K : PySem.W.Frag) : Bool :=
  (isB K "Word" && (isB K "Figure" && isB K "Row")) &&
  ((He.eqO (PySem.W.specialIn K (.builtin "object.__class__") "__get__") (some (some (.builtin "getset_descriptor.__get__"))) && decide (PySem.W.takesIn K (.builtin "object.__class__") = some true)) &&
  ((ktB K "Word" "Figure" false && (ktB K "Figure" "Word" false && (ktB K "Row" "Figure" false && ktB K "Row" "Word" false))) &&
  (He.tupB K "CORE" [.str "fn", .str "pick", .str "mac", .str "now"] &&
  (PySem.W.readsIn K (He.ga K "Tree") (.type "type") && (He.eqO (PySem.W.specialIn K (.ref (He.ga K "Tree")) "__getattribute__") (some (some (.builtin "type.__getattribute__"))) &&
  (match PySem.W.findCls K (.ref (He.ga K "Tree")) (.type "type") "__init__" with
    | some (.val (.ref f)) => decide (f = He.ma K (He.ga K "Tree") "__init__")
    | _ => false))))))
/-! the head's look: the facts by names, and exB -/
/-- the places that are read from those at the last step, each once -/
def newB (g : Addr → Option Obj) (seen front : List Addr) : List Addr := ((front.flatMap fun a => match g a with
  | some o => He.refsD o
  | none => []).filter fun x => !seen.contains x).eraseDups
def asB (g : Addr → Option Obj) : Nat → List Addr → List Addr → List Addr
  | 0, seen, _ => seen
  | n + 1, seen, front => match newB g seen front with
    | [] => seen
    | x :: r => asB g n (x :: r ++ seen) (x :: r)
def asM (g : Addr → Option Obj) : List Addr := PySem.cStatics :: asB g 4 [mainGlobals] [mainGlobals]
def obsM (g : Addr → Option Obj) : He.AlD × Bool := (He.obsD fa fn (He.frG g (asM g)), exB (He.frG g (asM g)))
abbrev hookM : PySem.W.Hook where
  α := He.AlD × Bool
  obs := fun s => obsM s.heap.get?
  val := fun _ => (He.valD fn, true)
  says := fun _ h => ∃ K : PySem.W.Frag, K.In h ∧ He.SaysD fa fn K ∧ exB K = true
  of := fun _ s e => ⟨He.frG s.heap.get? (asM s.heap.get?), He.frG_in, congrArg (fun z : He.AlD × Bool => z.1) e, congrArg (fun z : He.AlD × Bool => z.2) e⟩
  keeps := fun _ _ _ ⟨K, hK, c⟩ k => ⟨K, PySem.W.Frag.In.keeps hK k, c⟩
def obM (s : PySem.W.SharedT) : He.AlD × Bool := obsM (HandSHeadRun.getT s)
theorem obM_eq (s : PySem.W.SharedT) : obM s = hookM.obs s.abs := by
  have e : HandSHeadRun.getT s = s.abs.heap.get? := funext (HandSHeadRun.getT_eq s)
  show obsM (HandSHeadRun.getT s) = obsM s.abs.heap.get?
  rw [e] <;> rfl
/-! ### the facts of the text, one by one -/
structure Txt (K : PySem.W.Frag) (mg : Str → Option Value) : Prop where
  sd : He.SaysD fa fn K
  ex : exB K = true
  at_ : ∃ h : Heap, K.In h ∧ h.Ns mainGlobals mg
section
variable {K : PySem.W.Frag} {mg : Str → Option Value}
theorem Txt.g_first_wrong (T : Txt K mg) : mg "first_wrong" = some (.ref (He.ga K "first_wrong")) := let ⟨_, X, G⟩ := T.at_; He.glo_ok X G (T.sd.fact 0 (f := .glo "first_wrong"))
theorem Txt.g_number_places (T : Txt K mg) : mg "number_places" = some (.ref (He.ga K "number_places")) := let ⟨_, X, G⟩ := T.at_; He.glo_ok X G (T.sd.fact 1 (f := .glo "number_places"))
theorem Txt.g_core_of (T : Txt K mg) : mg "core_of" = some (.ref (He.ga K "core_of")) := let ⟨_, X, G⟩ := T.at_; He.glo_ok X G (T.sd.fact 2 (f := .glo "core_of"))
theorem Txt.g_outcome (T : Txt K mg) : mg "outcome" = some (.ref (He.ga K "outcome")) := let ⟨_, X, G⟩ := T.at_; He.glo_ok X G (T.sd.fact 3 (f := .glo "outcome"))
theorem Txt.g_within (T : Txt K mg) : mg "within" = some (.ref (He.ga K "within")) := let ⟨_, X, G⟩ := T.at_; He.glo_ok X G (T.sd.fact 4 (f := .glo "within"))
theorem Txt.g_is_name (T : Txt K mg) : mg "is_name" = some (.ref (He.ga K "is_name")) := let ⟨_, X, G⟩ := T.at_; He.glo_ok X G (T.sd.fact 5 (f := .glo "is_name"))
theorem Txt.g_only (T : Txt K mg) : mg "only" = some (.ref (He.ga K "only")) := let ⟨_, X, G⟩ := T.at_; He.glo_ok X G (T.sd.fact 6 (f := .glo "only"))
theorem Txt.g_is_word (T : Txt K mg) : mg "is_word" = some (.ref (He.ga K "is_word")) := let ⟨_, X, G⟩ := T.at_; He.glo_ok X G (T.sd.fact 7 (f := .glo "is_word"))
theorem Txt.g_is_number (T : Txt K mg) : mg "is_number" = some (.ref (He.ga K "is_number")) := let ⟨_, X, G⟩ := T.at_; He.glo_ok X G (T.sd.fact 8 (f := .glo "is_number"))
theorem Txt.g_signs_of (T : Txt K mg) : mg "signs_of" = some (.ref (He.ga K "signs_of")) := let ⟨_, X, G⟩ := T.at_; He.glo_ok X G (T.sd.fact 9 (f := .glo "signs_of"))
theorem Txt.g_leaf (T : Txt K mg) : mg "leaf" = some (.ref (He.ga K "leaf")) := let ⟨_, X, G⟩ := T.at_; He.glo_ok X G (T.sd.fact 10 (f := .glo "leaf"))
theorem Txt.g_read (T : Txt K mg) : mg "read" = some (.ref (He.ga K "read")) := let ⟨_, X, G⟩ := T.at_; He.glo_ok X G (T.sd.fact 11 (f := .glo "read"))
theorem Txt.g_come_to_plain (T : Txt K mg) : mg "come_to_plain" = some (.ref (He.ga K "come_to_plain")) := let ⟨_, X, G⟩ := T.at_; He.glo_ok X G (T.sd.fact 12 (f := .glo "come_to_plain"))
theorem Txt.g_come_to_form (T : Txt K mg) : mg "come_to_form" = some (.ref (He.ga K "come_to_form")) := let ⟨_, X, G⟩ := T.at_; He.glo_ok X G (T.sd.fact 13 (f := .glo "come_to_form"))
theorem Txt.g_come_to_word (T : Txt K mg) : mg "come_to_word" = some (.ref (He.ga K "come_to_word")) := let ⟨_, X, G⟩ := T.at_; He.glo_ok X G (T.sd.fact 14 (f := .glo "come_to_word"))
theorem Txt.g_come_to_call (T : Txt K mg) : mg "come_to_call" = some (.ref (He.ga K "come_to_call")) := let ⟨_, X, G⟩ := T.at_; He.glo_ok X G (T.sd.fact 15 (f := .glo "come_to_call"))
theorem Txt.g_come_to_headed (T : Txt K mg) : mg "come_to_headed" = some (.ref (He.ga K "come_to_headed")) := let ⟨_, X, G⟩ := T.at_; He.glo_ok X G (T.sd.fact 16 (f := .glo "come_to_headed"))
theorem Txt.g_come_to (T : Txt K mg) : mg "come_to" = some (.ref (He.ga K "come_to")) := let ⟨_, X, G⟩ := T.at_; He.glo_ok X G (T.sd.fact 17 (f := .glo "come_to"))
theorem Txt.g_turn (T : Txt K mg) : mg "turn" = some (.ref (He.ga K "turn")) := let ⟨_, X, G⟩ := T.at_; He.glo_ok X G (T.sd.fact 18 (f := .glo "turn"))
theorem Txt.g_make (T : Txt K mg) : mg "make" = some (.ref (He.ga K "make")) := let ⟨_, X, G⟩ := T.at_; He.glo_ok X G (T.sd.fact 19 (f := .glo "make"))
theorem Txt.g_law_cell (T : Txt K mg) : mg "_law_cell" = some (.ref (He.ga K "_law_cell")) := let ⟨_, X, G⟩ := T.at_; He.glo_ok X G (T.sd.fact 20 (f := .glo "_law_cell"))
theorem Txt.g_law_whole (T : Txt K mg) : mg "_law_whole" = some (.ref (He.ga K "_law_whole")) := let ⟨_, X, G⟩ := T.at_; He.glo_ok X G (T.sd.fact 21 (f := .glo "_law_whole"))
theorem Txt.g_law_names (T : Txt K mg) : mg "_law_names" = some (.ref (He.ga K "_law_names")) := let ⟨_, X, G⟩ := T.at_; He.glo_ok X G (T.sd.fact 22 (f := .glo "_law_names"))
theorem Txt.g_law_alike (T : Txt K mg) : mg "_law_alike" = some (.ref (He.ga K "_law_alike")) := let ⟨_, X, G⟩ := T.at_; He.glo_ok X G (T.sd.fact 23 (f := .glo "_law_alike"))
theorem Txt.g_law_all_alike (T : Txt K mg) : mg "_law_all_alike" = some (.ref (He.ga K "_law_all_alike")) := let ⟨_, X, G⟩ := T.at_; He.glo_ok X G (T.sd.fact 24 (f := .glo "_law_all_alike"))
theorem Txt.g_law_leaf (T : Txt K mg) : mg "_law_leaf" = some (.ref (He.ga K "_law_leaf")) := let ⟨_, X, G⟩ := T.at_; He.glo_ok X G (T.sd.fact 25 (f := .glo "_law_leaf"))
theorem Txt.g_law_tree (T : Txt K mg) : mg "_law_tree" = some (.ref (He.ga K "_law_tree")) := let ⟨_, X, G⟩ := T.at_; He.glo_ok X G (T.sd.fact 26 (f := .glo "_law_tree"))
theorem Txt.g_law (T : Txt K mg) : mg "law" = some (.ref (He.ga K "law")) := let ⟨_, X, G⟩ := T.at_; He.glo_ok X G (T.sd.fact 27 (f := .glo "law"))
theorem Txt.g_Claims (T : Txt K mg) : mg "Claims" = some (.ref (He.ga K "Claims")) := let ⟨_, X, G⟩ := T.at_; He.glo_ok X G (T.sd.fact 28 (f := .glo "Claims"))
theorem Txt.g_Spot (T : Txt K mg) : mg "Spot" = some (.ref (He.ga K "Spot")) := let ⟨_, X, G⟩ := T.at_; He.glo_ok X G (T.sd.fact 29 (f := .glo "Spot"))
theorem Txt.g_Maker (T : Txt K mg) : mg "Maker" = some (.ref (He.ga K "Maker")) := let ⟨_, X, G⟩ := T.at_; He.glo_ok X G (T.sd.fact 30 (f := .glo "Maker"))
theorem Txt.g_Tree (T : Txt K mg) : mg "Tree" = some (.ref (He.ga K "Tree")) := let ⟨_, X, G⟩ := T.at_; He.glo_ok X G (T.sd.fact 31 (f := .glo "Tree"))
theorem Txt.g_Word (T : Txt K mg) : mg "Word" = some (.ref (He.ga K "Word")) := let ⟨_, X, G⟩ := T.at_; He.glo_ok X G (T.sd.fact 32 (f := .glo "Word"))
theorem Txt.g_Figure (T : Txt K mg) : mg "Figure" = some (.ref (He.ga K "Figure")) := let ⟨_, X, G⟩ := T.at_; He.glo_ok X G (T.sd.fact 33 (f := .glo "Figure"))
theorem Txt.g_Row (T : Txt K mg) : mg "Row" = some (.ref (He.ga K "Row")) := let ⟨_, X, G⟩ := T.at_; He.glo_ok X G (T.sd.fact 34 (f := .glo "Row"))
theorem Txt.g_CORE (T : Txt K mg) : mg "CORE" = some (.ref (He.ga K "CORE")) := let ⟨_, X, G⟩ := T.at_; He.glo_ok X G (T.sd.fact 35 (f := .glo "CORE"))
theorem Txt.z_len (T : Txt K mg) : mg "len" = none := let ⟨_, X, G⟩ := T.at_; He.free_ok X G (T.sd.fact 36 (f := .free "len"))
theorem Txt.z_tuple (T : Txt K mg) : mg "tuple" = none := let ⟨_, X, G⟩ := T.at_; He.free_ok X G (T.sd.fact 37 (f := .free "tuple"))
theorem Txt.z_enumerate (T : Txt K mg) : mg "enumerate" = none := let ⟨_, X, G⟩ := T.at_; He.free_ok X G (T.sd.fact 38 (f := .free "enumerate"))
theorem Txt.z_sum (T : Txt K mg) : mg "sum" = none := let ⟨_, X, G⟩ := T.at_; He.free_ok X G (T.sd.fact 39 (f := .free "sum"))
theorem Txt.z_max (T : Txt K mg) : mg "max" = none := let ⟨_, X, G⟩ := T.at_; He.free_ok X G (T.sd.fact 40 (f := .free "max"))
theorem Txt.z_list (T : Txt K mg) : mg "list" = none := let ⟨_, X, G⟩ := T.at_; He.free_ok X G (T.sd.fact 41 (f := .free "list"))
theorem Txt.z_isinstance (T : Txt K mg) : mg "isinstance" = none := let ⟨_, X, G⟩ := T.at_; He.free_ok X G (T.sd.fact 42 (f := .free "isinstance"))
theorem Txt.z_range (T : Txt K mg) : mg "range" = none := let ⟨_, X, G⟩ := T.at_; He.free_ok X G (T.sd.fact 43 (f := .free "range"))
theorem Txt.z_all (T : Txt K mg) : mg "all" = none := let ⟨_, X, G⟩ := T.at_; He.free_ok X G (T.sd.fact 44 (f := .free "all"))
theorem Txt.z_zip (T : Txt K mg) : mg "zip" = none := let ⟨_, X, G⟩ := T.at_; He.free_ok X G (T.sd.fact 45 (f := .free "zip"))
theorem Txt.z_str (T : Txt K mg) : mg "str" = none := let ⟨_, X, G⟩ := T.at_; He.free_ok X G (T.sd.fact 46 (f := .free "str"))
theorem Txt.z_int (T : Txt K mg) : mg "int" = none := let ⟨_, X, G⟩ := T.at_; He.free_ok X G (T.sd.fact 47 (f := .free "int"))
theorem Txt.z_bool (T : Txt K mg) : mg "bool" = none := let ⟨_, X, G⟩ := T.at_; He.free_ok X G (T.sd.fact 48 (f := .free "bool"))
theorem Txt.i_DEEPEST_reader (T : Txt K mg) : ∃ t, mg "DEEPEST_reader" = some (.int 60 t) := let ⟨_, X, G⟩ := T.at_; He.int_ok X G (T.sd.fact 49 (f := .int "DEEPEST_reader" 60))
theorem Txt.i_LONGEST (T : Txt K mg) : ∃ t, mg "LONGEST" = some (.int 60 t) := let ⟨_, X, G⟩ := T.at_; He.int_ok X G (T.sd.fact 50 (f := .int "LONGEST" 60))
theorem Txt.s_LETTERS (T : Txt K mg) : ∃ t, mg "LETTERS" = some (.str "abcdefghijklmnopqrstuvwxyz" t) := let ⟨_, X, G⟩ := T.at_; He.str_ok X G (T.sd.fact 51 (f := .str "LETTERS" "abcdefghijklmnopqrstuvwxyz"))
theorem Txt.s_FIGURES (T : Txt K mg) : ∃ t, mg "FIGURES" = some (.str "0123456789" t) := let ⟨_, X, G⟩ := T.at_; He.str_ok X G (T.sd.fact 52 (f := .str "FIGURES" "0123456789"))
theorem Txt.c_Claims (T : Txt K mg) : Cls K (He.ga K "Claims") := He.cls_ok (T.sd.fact 53 (f := .cls "Claims"))
theorem Txt.c_Spot (T : Txt K mg) : Cls K (He.ga K "Spot") := He.cls_ok (T.sd.fact 54 (f := .cls "Spot"))
theorem Txt.c_Maker (T : Txt K mg) : Cls K (He.ga K "Maker") := He.cls_ok (T.sd.fact 55 (f := .cls "Maker"))
theorem Txt.c_Word (T : Txt K mg) : Cls K (He.ga K "Word") := He.cls_ok (T.sd.fact 56 (f := .cls "Word"))
theorem Txt.c_Figure (T : Txt K mg) : Cls K (He.ga K "Figure") := He.cls_ok (T.sd.fact 57 (f := .cls "Figure"))
theorem Txt.c_Row (T : Txt K mg) : Cls K (He.ga K "Row") := He.cls_ok (T.sd.fact 58 (f := .cls "Row"))
theorem Txt.n_Claims_rows (T : Txt K mg) : NoAttr K (He.ga K "Claims") "rows" := He.noat_ok (T.sd.fact 59 (f := .noat "Claims" "rows"))
theorem Txt.n_Spot_tree (T : Txt K mg) : NoAttr K (He.ga K "Spot") "tree" := He.noat_ok (T.sd.fact 60 (f := .noat "Spot" "tree"))
theorem Txt.n_Spot_depth (T : Txt K mg) : NoAttr K (He.ga K "Spot") "depth" := He.noat_ok (T.sd.fact 61 (f := .noat "Spot" "depth"))
theorem Txt.n_Spot_kind (T : Txt K mg) : NoAttr K (He.ga K "Spot") "kind" := He.noat_ok (T.sd.fact 62 (f := .noat "Spot" "kind"))
theorem Txt.n_Spot_given (T : Txt K mg) : NoAttr K (He.ga K "Spot") "given" := He.noat_ok (T.sd.fact 63 (f := .noat "Spot" "given"))
theorem Txt.n_Spot_claim (T : Txt K mg) : NoAttr K (He.ga K "Spot") "claim" := He.noat_ok (T.sd.fact 64 (f := .noat "Spot" "claim"))
theorem Txt.n_Spot_below (T : Txt K mg) : NoAttr K (He.ga K "Spot") "below" := He.noat_ok (T.sd.fact 65 (f := .noat "Spot" "below"))
theorem Txt.n_Maker_most (T : Txt K mg) : NoAttr K (He.ga K "Maker") "most" := He.noat_ok (T.sd.fact 66 (f := .noat "Maker" "most"))
theorem Txt.n_Maker_claims (T : Txt K mg) : NoAttr K (He.ga K "Maker") "claims" := He.noat_ok (T.sd.fact 67 (f := .noat "Maker" "claims"))
theorem Txt.n_Maker_macros (T : Txt K mg) : NoAttr K (He.ga K "Maker") "macros" := He.noat_ok (T.sd.fact 68 (f := .noat "Maker" "macros"))
theorem Txt.n_Maker_stretches (T : Txt K mg) : NoAttr K (He.ga K "Maker") "stretches" := He.noat_ok (T.sd.fact 69 (f := .noat "Maker" "stretches"))
theorem Txt.n_Maker_steps (T : Txt K mg) : NoAttr K (He.ga K "Maker") "steps" := He.noat_ok (T.sd.fact 70 (f := .noat "Maker" "steps"))
theorem Txt.n_Maker_asked (T : Txt K mg) : NoAttr K (He.ga K "Maker") "asked" := He.noat_ok (T.sd.fact 71 (f := .noat "Maker" "asked"))
theorem Txt.n_Maker_roots (T : Txt K mg) : NoAttr K (He.ga K "Maker") "roots" := He.noat_ok (T.sd.fact 72 (f := .noat "Maker" "roots"))
theorem Txt.n_Maker_waiting (T : Txt K mg) : NoAttr K (He.ga K "Maker") "waiting" := He.noat_ok (T.sd.fact 73 (f := .noat "Maker" "waiting"))
theorem Txt.n_Maker_places (T : Txt K mg) : NoAttr K (He.ga K "Maker") "places" := He.noat_ok (T.sd.fact 74 (f := .noat "Maker" "places"))
theorem Txt.n_Maker_tops (T : Txt K mg) : NoAttr K (He.ga K "Maker") "tops" := He.noat_ok (T.sd.fact 75 (f := .noat "Maker" "tops"))
theorem Txt.n_Word_at (T : Txt K mg) : NoAttr K (He.ga K "Word") "at" := He.noat_ok (T.sd.fact 76 (f := .noat "Word" "at"))
theorem Txt.n_Word_many (T : Txt K mg) : NoAttr K (He.ga K "Word") "many" := He.noat_ok (T.sd.fact 77 (f := .noat "Word" "many"))
theorem Txt.n_Word_deep (T : Txt K mg) : NoAttr K (He.ga K "Word") "deep" := He.noat_ok (T.sd.fact 78 (f := .noat "Word" "deep"))
theorem Txt.n_Word_name (T : Txt K mg) : NoAttr K (He.ga K "Word") "name" := He.noat_ok (T.sd.fact 79 (f := .noat "Word" "name"))
theorem Txt.n_Word_bits (T : Txt K mg) : NoAttr K (He.ga K "Word") "bits" := He.noat_ok (T.sd.fact 80 (f := .noat "Word" "bits"))
theorem Txt.n_Figure_at (T : Txt K mg) : NoAttr K (He.ga K "Figure") "at" := He.noat_ok (T.sd.fact 81 (f := .noat "Figure" "at"))
theorem Txt.n_Figure_many (T : Txt K mg) : NoAttr K (He.ga K "Figure") "many" := He.noat_ok (T.sd.fact 82 (f := .noat "Figure" "many"))
theorem Txt.n_Figure_deep (T : Txt K mg) : NoAttr K (He.ga K "Figure") "deep" := He.noat_ok (T.sd.fact 83 (f := .noat "Figure" "deep"))
theorem Txt.n_Figure_number (T : Txt K mg) : NoAttr K (He.ga K "Figure") "number" := He.noat_ok (T.sd.fact 84 (f := .noat "Figure" "number"))
theorem Txt.n_Row_at (T : Txt K mg) : NoAttr K (He.ga K "Row") "at" := He.noat_ok (T.sd.fact 85 (f := .noat "Row" "at"))
theorem Txt.n_Row_many (T : Txt K mg) : NoAttr K (He.ga K "Row") "many" := He.noat_ok (T.sd.fact 86 (f := .noat "Row" "many"))
theorem Txt.n_Row_deep (T : Txt K mg) : NoAttr K (He.ga K "Row") "deep" := He.noat_ok (T.sd.fact 87 (f := .noat "Row" "deep"))
theorem Txt.n_Row_parts (T : Txt K mg) : NoAttr K (He.ga K "Row") "parts" := He.noat_ok (T.sd.fact 88 (f := .noat "Row" "parts"))
theorem Txt.m_Claims_put (T : Txt K mg) : Meth K (He.ga K "Claims") "put" (He.ma K (He.ga K "Claims") "put") := He.meth_ok (T.sd.fact 89 (f := .meth "Claims" "put"))
theorem Txt.m_Claims_open_to (T : Txt K mg) : Meth K (He.ga K "Claims") "open_to" (He.ma K (He.ga K "Claims") "open_to") := He.meth_ok (T.sd.fact 90 (f := .meth "Claims" "open_to"))
theorem Txt.m_Claims_is_under (T : Txt K mg) : Meth K (He.ga K "Claims") "is_under" (He.ma K (He.ga K "Claims") "is_under") := He.meth_ok (T.sd.fact 91 (f := .meth "Claims" "is_under"))
theorem Txt.m_Claims_claim_of (T : Txt K mg) : Meth K (He.ga K "Claims") "claim_of" (He.ma K (He.ga K "Claims") "claim_of") := He.meth_ok (T.sd.fact 92 (f := .meth "Claims" "claim_of"))
theorem Txt.m_Spot_settle (T : Txt K mg) : Meth K (He.ga K "Spot") "settle" (He.ma K (He.ga K "Spot") "settle") := He.meth_ok (T.sd.fact 93 (f := .meth "Spot" "settle"))
theorem Txt.m_Spot_spread (T : Txt K mg) : Meth K (He.ga K "Spot") "spread" (He.ma K (He.ga K "Spot") "spread") := He.meth_ok (T.sd.fact 94 (f := .meth "Spot" "spread"))
theorem Txt.m_Maker_ask (T : Txt K mg) : Meth K (He.ga K "Maker") "ask" (He.ma K (He.ga K "Maker") "ask") := He.meth_ok (T.sd.fact 95 (f := .meth "Maker" "ask"))
theorem Txt.m_Maker_meaning (T : Txt K mg) : Meth K (He.ga K "Maker") "meaning" (He.ma K (He.ga K "Maker") "meaning") := He.meth_ok (T.sd.fact 96 (f := .meth "Maker" "meaning"))
theorem Txt.m_Maker_place (T : Txt K mg) : Meth K (He.ga K "Maker") "place" (He.ma K (He.ga K "Maker") "place") := He.meth_ok (T.sd.fact 97 (f := .meth "Maker" "place"))
theorem Txt.m_Maker_top (T : Txt K mg) : Meth K (He.ga K "Maker") "top" (He.ma K (He.ga K "Maker") "top") := He.meth_ok (T.sd.fact 98 (f := .meth "Maker" "top"))
theorem Txt.m_Maker_put (T : Txt K mg) : Meth K (He.ga K "Maker") "put" (He.ma K (He.ga K "Maker") "put") := He.meth_ok (T.sd.fact 99 (f := .meth "Maker" "put"))
theorem Txt.k_Claims (T : Txt K mg) : Mk K (He.ga K "Claims") (He.ma K (He.ga K "Claims") "__init__") := He.mkr_ok (T.sd.fact 100 (f := .mkr "Claims"))
theorem Txt.k_Spot (T : Txt K mg) : Mk K (He.ga K "Spot") (He.ma K (He.ga K "Spot") "__init__") := He.mkr_ok (T.sd.fact 101 (f := .mkr "Spot"))
theorem Txt.k_Maker (T : Txt K mg) : Mk K (He.ga K "Maker") (He.ma K (He.ga K "Maker") "__init__") := He.mkr_ok (T.sd.fact 102 (f := .mkr "Maker"))
theorem Txt.k_Word (T : Txt K mg) : Mk K (He.ga K "Word") (He.ma K (He.ga K "Word") "__init__") := He.mkr_ok (T.sd.fact 103 (f := .mkr "Word"))
theorem Txt.k_Figure (T : Txt K mg) : Mk K (He.ga K "Figure") (He.ma K (He.ga K "Figure") "__init__") := He.mkr_ok (T.sd.fact 104 (f := .mkr "Figure"))
theorem Txt.k_Row (T : Txt K mg) : Mk K (He.ga K "Row") (He.ma K (He.ga K "Row") "__init__") := He.mkr_ok (T.sd.fact 105 (f := .mkr "Row"))
theorem Txt.kp_Tree (T : Txt K mg) : PySem.W.keepIn K (.ref (He.ga K "Tree")) = true := He.keep_ok (T.sd.fact 106 (f := .keep "Tree"))
theorem Txt.f_first_wrong (T : Txt K mg) : ∃ fd, FunD K "first_wrong" "first_wrong" (defArgs s_first_wrong) (defBody s_first_wrong) (defScope s_first_wrong) [] [] (He.ga K "first_wrong") fd := T.sd.def_ 0 (d := d_first_wrong)
theorem Txt.f_number_places (T : Txt K mg) : ∃ fd, FunD K "number_places" "number_places" (defArgs s_number_places) (defBody s_number_places) (defScope s_number_places) [] [] (He.ga K "number_places") fd := T.sd.def_ 1 (d := d_number_places)
theorem Txt.f_core_of (T : Txt K mg) : ∃ fd, FunD K "core_of" "core_of" (defArgs s_core_of) (defBody s_core_of) (defScope s_core_of) [] [] (He.ga K "core_of") fd := T.sd.def_ 2 (d := d_core_of)
theorem Txt.f_outcome (T : Txt K mg) : ∃ fd, FunD K "outcome" "outcome" (defArgs s_outcome) (defBody s_outcome) (defScope s_outcome) [] [] (He.ga K "outcome") fd := T.sd.def_ 3 (d := d_outcome)
theorem Txt.f_within (T : Txt K mg) : ∃ fd, FunD K "within" "within" (defArgs s_within) (defBody s_within) (defScope s_within) [] [] (He.ga K "within") fd := T.sd.def_ 4 (d := d_within)
theorem Txt.f_is_name (T : Txt K mg) : ∃ fd, FunD K "is_name" "is_name" (defArgs s_is_name) (defBody s_is_name) (defScope s_is_name) [] [] (He.ga K "is_name") fd := T.sd.def_ 5 (d := d_is_name)
theorem Txt.f_only (T : Txt K mg) : ∃ fd, FunD K "only" "only" (defArgs s_only) (defBody s_only) (defScope s_only) [] [] (He.ga K "only") fd := T.sd.def_ 6 (d := d_only)
theorem Txt.f_is_word (T : Txt K mg) : ∃ fd, FunD K "is_word" "is_word" (defArgs s_is_word) (defBody s_is_word) (defScope s_is_word) [] [] (He.ga K "is_word") fd := T.sd.def_ 7 (d := d_is_word)
theorem Txt.f_is_number (T : Txt K mg) : ∃ fd, FunD K "is_number" "is_number" (defArgs s_is_number) (defBody s_is_number) (defScope s_is_number) [] [] (He.ga K "is_number") fd := T.sd.def_ 8 (d := d_is_number)
theorem Txt.f_signs_of (T : Txt K mg) : ∃ fd, FunD K "signs_of" "signs_of" (defArgs s_signs_of) (defBody s_signs_of) (defScope s_signs_of) [] [] (He.ga K "signs_of") fd := T.sd.def_ 9 (d := d_signs_of)
theorem Txt.f_leaf (T : Txt K mg) : ∃ fd, FunD K "leaf" "leaf" (defArgs s_leaf) (defBody s_leaf) (defScope s_leaf) [] [] (He.ga K "leaf") fd := T.sd.def_ 10 (d := d_leaf)
theorem Txt.f_read (T : Txt K mg) : ∃ fd, FunD K "read" "read" (defArgs s_read) (defBody s_read) (defScope s_read) [] [] (He.ga K "read") fd := T.sd.def_ 11 (d := d_read)
theorem Txt.f_come_to_plain (T : Txt K mg) : ∃ fd, FunD K "come_to_plain" "come_to_plain" (defArgs s_come_to_plain) (defBody s_come_to_plain) (defScope s_come_to_plain) [] [] (He.ga K "come_to_plain") fd := T.sd.def_ 12 (d := d_come_to_plain)
theorem Txt.f_come_to_form (T : Txt K mg) : ∃ fd, FunD K "come_to_form" "come_to_form" (defArgs s_come_to_form) (defBody s_come_to_form) (defScope s_come_to_form) [] [] (He.ga K "come_to_form") fd := T.sd.def_ 13 (d := d_come_to_form)
theorem Txt.f_come_to_word (T : Txt K mg) : ∃ fd, FunD K "come_to_word" "come_to_word" (defArgs s_come_to_word) (defBody s_come_to_word) (defScope s_come_to_word) [] [] (He.ga K "come_to_word") fd := T.sd.def_ 14 (d := d_come_to_word)
theorem Txt.f_come_to_call (T : Txt K mg) : ∃ fd, FunD K "come_to_call" "come_to_call" (defArgs s_come_to_call) (defBody s_come_to_call) (defScope s_come_to_call) [] [] (He.ga K "come_to_call") fd := T.sd.def_ 15 (d := d_come_to_call)
theorem Txt.f_come_to_headed (T : Txt K mg) : ∃ fd, FunD K "come_to_headed" "come_to_headed" (defArgs s_come_to_headed) (defBody s_come_to_headed) (defScope s_come_to_headed) [] [] (He.ga K "come_to_headed") fd := T.sd.def_ 16 (d := d_come_to_headed)
theorem Txt.f_come_to (T : Txt K mg) : ∃ fd, FunD K "come_to" "come_to" (defArgs s_come_to) (defBody s_come_to) (defScope s_come_to) [] [] (He.ga K "come_to") fd := T.sd.def_ 17 (d := d_come_to)
theorem Txt.f_turn (T : Txt K mg) : ∃ fd, FunD K "turn" "turn" (defArgs s_turn) (defBody s_turn) (defScope s_turn) [] [] (He.ga K "turn") fd := T.sd.def_ 18 (d := d_turn)
theorem Txt.f_make (T : Txt K mg) : ∃ fd, FunD K "make" "make" (defArgs s_make) (defBody s_make) (defScope s_make) [.non] [] (He.ga K "make") fd := T.sd.def_ 19 (d := d_make)
theorem Txt.f_law_cell (T : Txt K mg) : ∃ fd, FunD K "_law_cell" "_law_cell" (defArgs s_law_cell) (defBody s_law_cell) (defScope s_law_cell) [] [] (He.ga K "_law_cell") fd := T.sd.def_ 20 (d := d_law_cell)
theorem Txt.f_law_whole (T : Txt K mg) : ∃ fd, FunD K "_law_whole" "_law_whole" (defArgs s_law_whole) (defBody s_law_whole) (defScope s_law_whole) [] [] (He.ga K "_law_whole") fd := T.sd.def_ 21 (d := d_law_whole)
theorem Txt.f_law_names (T : Txt K mg) : ∃ fd, FunD K "_law_names" "_law_names" (defArgs s_law_names) (defBody s_law_names) (defScope s_law_names) [] [] (He.ga K "_law_names") fd := T.sd.def_ 22 (d := d_law_names)
theorem Txt.f_law_alike (T : Txt K mg) : ∃ fd, FunD K "_law_alike" "_law_alike" (defArgs s_law_alike) (defBody s_law_alike) (defScope s_law_alike) [] [] (He.ga K "_law_alike") fd := T.sd.def_ 23 (d := d_law_alike)
theorem Txt.f_law_all_alike (T : Txt K mg) : ∃ fd, FunD K "_law_all_alike" "_law_all_alike" (defArgs s_law_all_alike) (defBody s_law_all_alike) (defScope s_law_all_alike) [] [] (He.ga K "_law_all_alike") fd := T.sd.def_ 24 (d := d_law_all_alike)
theorem Txt.f_law_leaf (T : Txt K mg) : ∃ fd, FunD K "_law_leaf" "_law_leaf" (defArgs s_law_leaf) (defBody s_law_leaf) (defScope s_law_leaf) [] [] (He.ga K "_law_leaf") fd := T.sd.def_ 25 (d := d_law_leaf)
theorem Txt.f_law_tree (T : Txt K mg) : ∃ fd, FunD K "_law_tree" "_law_tree" (defArgs s_law_tree) (defBody s_law_tree) (defScope s_law_tree) [] [] (He.ga K "_law_tree") fd := T.sd.def_ 26 (d := d_law_tree)
theorem Txt.f_law (T : Txt K mg) : ∃ fd, FunD K "law" "law" (defArgs s_law) (defBody s_law) (defScope s_law) [] [] (He.ga K "law") fd := T.sd.def_ 27 (d := d_law)
theorem Txt.f_Claims_init (T : Txt K mg) : ∃ fd, FunD K "__init__" "Claims.__init__" (defArgs sClaims_init) (defBody sClaims_init) (defScope sClaims_init) [] [] (He.ma K (He.ga K "Claims") "__init__") fd := T.sd.def_ 28 (d := dClaims_init)
theorem Txt.f_Claims_put (T : Txt K mg) : ∃ fd, FunD K "put" "Claims.put" (defArgs sClaims_put) (defBody sClaims_put) (defScope sClaims_put) [] [] (He.ma K (He.ga K "Claims") "put") fd := T.sd.def_ 29 (d := dClaims_put)
theorem Txt.f_Claims_open_to (T : Txt K mg) : ∃ fd, FunD K "open_to" "Claims.open_to" (defArgs sClaims_open_to) (defBody sClaims_open_to) (defScope sClaims_open_to) [] [] (He.ma K (He.ga K "Claims") "open_to") fd := T.sd.def_ 30 (d := dClaims_open_to)
theorem Txt.f_Claims_is_under (T : Txt K mg) : ∃ fd, FunD K "is_under" "Claims.is_under" (defArgs sClaims_is_under) (defBody sClaims_is_under) (defScope sClaims_is_under) [] [] (He.ma K (He.ga K "Claims") "is_under") fd := T.sd.def_ 31 (d := dClaims_is_under)
theorem Txt.f_Claims_claim_of (T : Txt K mg) : ∃ fd, FunD K "claim_of" "Claims.claim_of" (defArgs sClaims_claim_of) (defBody sClaims_claim_of) (defScope sClaims_claim_of) [] [] (He.ma K (He.ga K "Claims") "claim_of") fd := T.sd.def_ 32 (d := dClaims_claim_of)
theorem Txt.f_Spot_init (T : Txt K mg) : ∃ fd, FunD K "__init__" "Spot.__init__" (defArgs sSpot_init) (defBody sSpot_init) (defScope sSpot_init) [] [] (He.ma K (He.ga K "Spot") "__init__") fd := T.sd.def_ 33 (d := dSpot_init)
theorem Txt.f_Spot_settle (T : Txt K mg) : ∃ fd, FunD K "settle" "Spot.settle" (defArgs sSpot_settle) (defBody sSpot_settle) (defScope sSpot_settle) [.non] [] (He.ma K (He.ga K "Spot") "settle") fd := T.sd.def_ 34 (d := dSpot_settle)
theorem Txt.f_Spot_spread (T : Txt K mg) : ∃ fd, FunD K "spread" "Spot.spread" (defArgs sSpot_spread) (defBody sSpot_spread) (defScope sSpot_spread) [] [] (He.ma K (He.ga K "Spot") "spread") fd := T.sd.def_ 35 (d := dSpot_spread)
theorem Txt.f_Maker_init (T : Txt K mg) : ∃ fd, FunD K "__init__" "Maker.__init__" (defArgs sMaker_init) (defBody sMaker_init) (defScope sMaker_init) [.int 40] [] (He.ma K (He.ga K "Maker") "__init__") fd := T.sd.def_ 36 (d := dMaker_init)
theorem Txt.f_Maker_ask (T : Txt K mg) : ∃ fd, FunD K "ask" "Maker.ask" (defArgs sMaker_ask) (defBody sMaker_ask) (defScope sMaker_ask) [] [] (He.ma K (He.ga K "Maker") "ask") fd := T.sd.def_ 37 (d := dMaker_ask)
theorem Txt.f_Maker_meaning (T : Txt K mg) : ∃ fd, FunD K "meaning" "Maker.meaning" (defArgs sMaker_meaning) (defBody sMaker_meaning) (defScope sMaker_meaning) [] [] (He.ma K (He.ga K "Maker") "meaning") fd := T.sd.def_ 38 (d := dMaker_meaning)
theorem Txt.f_Maker_place (T : Txt K mg) : ∃ fd, FunD K "place" "Maker.place" (defArgs sMaker_place) (defBody sMaker_place) (defScope sMaker_place) [] [] (He.ma K (He.ga K "Maker") "place") fd := T.sd.def_ 39 (d := dMaker_place)
theorem Txt.f_Maker_top (T : Txt K mg) : ∃ fd, FunD K "top" "Maker.top" (defArgs sMaker_top) (defBody sMaker_top) (defScope sMaker_top) [] [] (He.ma K (He.ga K "Maker") "top") fd := T.sd.def_ 40 (d := dMaker_top)
theorem Txt.f_Maker_put (T : Txt K mg) : ∃ fd, FunD K "put" "Maker.put" (defArgs sMaker_put) (defBody sMaker_put) (defScope sMaker_put) [] [] (He.ma K (He.ga K "Maker") "put") fd := T.sd.def_ 41 (d := dMaker_put)
theorem Txt.f_Tree_init (T : Txt K mg) : ∃ fd, FunD K "__init__" "Tree.__init__" (defArgs sTree_init) (defBody sTree_init) (defScope sTree_init) [] [] (He.ma K (He.ga K "Tree") "__init__") fd := T.sd.def_ 42 (d := dTree_init)
theorem Txt.f_Word_init (T : Txt K mg) : ∃ fd, FunD K "__init__" "Word.__init__" (defArgs sWord_init) (defBody sWord_init) (defScope sWord_init) [.int 0] [] (He.ma K (He.ga K "Word") "__init__") fd := T.sd.def_ 43 (d := dWord_init)
theorem Txt.f_Figure_init (T : Txt K mg) : ∃ fd, FunD K "__init__" "Figure.__init__" (defArgs sFigure_init) (defBody sFigure_init) (defScope sFigure_init) [] [] (He.ma K (He.ga K "Figure") "__init__") fd := T.sd.def_ 44 (d := dFigure_init)
theorem Txt.f_Row_init (T : Txt K mg) : ∃ fd, FunD K "__init__" "Row.__init__" (defArgs sRow_init) (defBody sRow_init) (defScope sRow_init) [] [] (He.ma K (He.ga K "Row") "__init__") fd := T.sd.def_ 45 (d := dRow_init)
/-- the type of an instance of one of the three tree classes -/
theorem isB_ok {x : Str} (h : isB K x = true) : PySem.W.findIn K (.ref (He.ga K x)) "__class__" = some (some (.builtin "object.__class__")) ∧ PySem.W.mroIn K (He.ga K x) (.type "object") = some true := by
  obtain ⟨a, b⟩ := He.ba h
  exact ⟨He.eqO_ok a, of_decide_eq_true b⟩
structure ExP (K : PySem.W.Frag) : Prop where
  iW : isB K "Word" = true
  iF : isB K "Figure" = true
  iR : isB K "Row" = true
  sp : PySem.W.specialIn K (.builtin "object.__class__") "__get__" = some (some (.builtin "getset_descriptor.__get__"))
  tk : PySem.W.takesIn K (.builtin "object.__class__") = some true
  wf : PySem.W.kitOne K (.ref (He.ga K "Word")) (.ref (He.ga K "Figure")) = some false
  fw : PySem.W.kitOne K (.ref (He.ga K "Figure")) (.ref (He.ga K "Word")) = some false
  rf : PySem.W.kitOne K (.ref (He.ga K "Row")) (.ref (He.ga K "Figure")) = some false
  rw_ : PySem.W.kitOne K (.ref (He.ga K "Row")) (.ref (He.ga K "Word")) = some false
  core : He.tupB K "CORE" [.str "fn", .str "pick", .str "mac", .str "now"] = true
  rd : PySem.W.readsIn K (He.ga K "Tree") (.type "type") = true
  ga : PySem.W.specialIn K (.ref (He.ga K "Tree")) "__getattribute__" = some (some (.builtin "type.__getattribute__"))
  fi : PySem.W.findCls K (.ref (He.ga K "Tree")) (.type "type") "__init__" = some (.val (.ref (He.ma K (He.ga K "Tree") "__init__")))
theorem Txt.exP (T : Txt K mg) : ExP K := by
  obtain ⟨h1, h⟩ := He.ba T.ex
  obtain ⟨a1, h1⟩ := He.ba h1
  obtain ⟨a2, a3⟩ := He.ba h1
  obtain ⟨h2, h⟩ := He.ba h
  obtain ⟨a4, a5⟩ := He.ba h2
  obtain ⟨h3, h⟩ := He.ba h
  obtain ⟨a6, h3⟩ := He.ba h3
  obtain ⟨a7, h3⟩ := He.ba h3
  obtain ⟨a8, a9⟩ := He.ba h3
  obtain ⟨a10, h⟩ := He.ba h
  obtain ⟨a11, h⟩ := He.ba h
  obtain ⟨a12, a13⟩ := He.ba h
  refine ⟨a1, a2, a3, He.eqO_ok a4, of_decide_eq_true a5, of_decide_eq_true a6, of_decide_eq_true a7, of_decide_eq_true a8, of_decide_eq_true a9, a10, a11, He.eqO_ok a12, ?_⟩
  cases q : PySem.W.findCls K (.ref (He.ga K "Tree")) (.type "type") "__init__" with
  | none =>
    rw [q] at a13
    cases a13
  | some r =>
    rw [q] at a13
    cases r with
    | val v =>
      cases v with
      | ref f =>
        have e : f = He.ma K (He.ga K "Tree") "__init__" := of_decide_eq_true a13
        rw [e]
      | _ => cases a13
    | _ => cases a13
end
end Mh
/-! ### the head's run, and what it leaves -/
namespace Mh
open PySem PySem.Spec PyProof.Rows L2
abbrev R : PySem.W.OpenRow := PySem.W.OpenLaw.row PySem.Challenge.rw_macrohouse_k41_numbers_names_calls
abbrev qv : Program := PySem.W.view R.prog [91]
theorem run1 (w : World) : HandSHeadRun.RunEq R qv hookM obM 8000 lo w := by
  intro os
  kernel_rfl
end Mh
namespace Mh
open PySem L2 TL
/-! ### the plain side: law trees, parse trees, signs -/
abbrev Cs := List Nat
/-- a parse tree -/
inductive Tr where
  | word (w : Cs)
  | fig (n : Int)
  | row (ps : List Tr)
inductive Kd where
  | call | pick | now
  deriving DecidableEq
/-- a tree as the law draws it -/
inductive LT where
  | num (n : Int)
  | seen (k : Nat) (w : Cs)
  | free (w : Cs)
  | node (kd : Kd) (ps : List LT)
def wPick : Cs := [112, 105, 99, 107]
def wNow : Cs := [110, 111, 119]
/-- the signs of a whole number -/
def numC (n : Int) : Cs := tl (Str.ofString (toString n))
inductive Tk where
  | opn | cls
  | wd (w : Cs)
  | nm (n : Int)
def Tk.cs : Tk → Cs
  | .opn => [40]
  | .cls => [41]
  | .wd w => w
  | .nm n => numC n
def Kd.tok : Kd → List Tk
  | .call => []
  | .pick => [.wd wPick]
  | .now => [.wd wNow]
/-- what the law writes between the bracket and the parts -/
def Kd.txt : Kd → Cs
  | .call => []
  | .pick => wPick ++ [32]
  | .now => wNow ++ [32]
def Kd.tr : Kd → List Tr
  | .call => []
  | .pick => [.word wPick]
  | .now => [.word wNow]
mutual
def LT.txt : LT → Cs
  | .num n => numC n
  | .seen _ w => w
  | .free w => w
  | .node kd ps => 40 :: (kd.txt ++ (joinL [32] (LT.txts ps) ++ [41]))
def LT.txts : List LT → List Cs
  | [] => []
  | p :: ps => p.txt :: LT.txts ps
end
mutual
def LT.tok : LT → List Tk
  | .num n => [.nm n]
  | .seen _ w => [.wd w]
  | .free w => [.wd w]
  | .node kd ps => .opn :: (kd.tok ++ (LT.toks ps ++ [.cls]))
def LT.toks : List LT → List Tk
  | [] => []
  | p :: ps => p.tok ++ LT.toks ps
end
mutual
def LT.tr : LT → Tr
  | .num n => .fig n
  | .seen _ w => .word w
  | .free w => .word w
  | .node kd ps => .row (kd.tr ++ LT.trs ps)
def LT.trs : List LT → List Tr
  | [] => []
  | p :: ps => p.tr :: LT.trs ps
end
mutual
def LT.turns : LT → Nat
  | .num _ => 1
  | .seen _ _ => 1
  | .free _ => 1
  | .node _ ps => 1 + LT.turnss ps
def LT.turnss : List LT → Nat
  | [] => 0
  | p :: ps => p.turns + LT.turnss ps
end
theorem trs_map : ∀ ps : List LT, LT.trs ps = ps.map LT.tr
  | [] => rfl
  | p :: ps => by
    show p.tr :: LT.trs ps = _
    rw [trs_map ps] <;> rfl
theorem txts_map : ∀ ps : List LT, LT.txts ps = ps.map LT.txt
  | [] => rfl
  | p :: ps => by
    show p.txt :: LT.txts ps = _
    rw [txts_map ps] <;> rfl
theorem turnss_map : ∀ ps : List LT, LT.turnss ps = (ps.map LT.turns).sum
  | [] => rfl
  | p :: ps => by
    show p.turns + LT.turnss ps = _
    rw [turnss_map ps, List.map_cons, List.sum_cons]
/-- how many parts a kind has -/
def Kd.okLen : Kd → Nat → Prop
  | .call, n => 1 ≤ n ∧ n ≤ 4
  | .pick, n => n = 3
  | .now, n => n = 1
theorem Kd.okLen.pos {kd : Kd} {n : Nat} (h : kd.okLen n) : 1 ≤ n ∧ n ≤ 4 := by
  cases kd with
  | call => exact h
  | pick => have e : n = 3 := h; omega
  | now => have e : n = 1 := h; omega
/-- a sign of a word: a small letter or a figure -/
def wordC (c : Nat) : Prop := (97 ≤ c ∧ c ≤ 122) ∨ (48 ≤ c ∧ c ≤ 57)
/-- a word as the reader takes it -/
structure WdOk (w : Cs) : Prop where
  ne : ∃ c r, w = c :: r ∧ 97 ≤ c ∧ c ≤ 122
  all : ∀ c ∈ w, wordC c
  len : w.length ≤ 100
def cores : List Cs := [[102, 110], wPick, [109, 97, 99], wNow]
/-- five names: words, none a core word, no two alike -/
structure Names (nm : List Cs) : Prop where
  len : nm.length = 5
  ok : ∀ w ∈ nm, WdOk w
  nc : ∀ w ∈ nm, ¬ w ∈ cores
  nd : nm.Nodup
def big : Int := 10 ^ 60
/-- a law tree over the names nm, at most n rows deep -/
def LOk (nm : List Cs) : Nat → LT → Prop
  | _, .num n => -big < n ∧ n < big
  | _, .seen k w => k < 2 ∧ nm[k]? = some w
  | _, .free w => ∃ j, 2 ≤ j ∧ nm[j]? = some w
  | 0, .node _ _ => False
  | n + 1, .node kd ps => kd.okLen ps.length ∧ ∀ p ∈ ps, LOk nm n p
theorem LOk.mono {nm : List Cs} : ∀ {n m : Nat} {t : LT}, LOk nm n t → n ≤ m → LOk nm m t
  | _, 0, .num _, h, _ => by unfold LOk at *; exact h
  | _, _ + 1, .num _, h, _ => by unfold LOk at *; exact h
  | _, 0, .seen _ _, h, _ => by unfold LOk at *; exact h
  | _, _ + 1, .seen _ _, h, _ => by unfold LOk at *; exact h
  | _, 0, .free _, h, _ => by unfold LOk at *; exact h
  | _, _ + 1, .free _, h, _ => by unfold LOk at *; exact h
  | 0, _, .node _ _, h, _ => by unfold LOk at h; exact h.elim
  | n + 1, 0, .node _ _, _, hm => by omega
  | n + 1, m + 1, .node kd ps, h, hm => by
    unfold LOk at h ⊢
    exact ⟨h.1, fun p hp => LOk.mono (h.2 p hp) (by omega)⟩
theorem big_eq : big = ((10 ^ 60 : Nat) : Int) := by decide +kernel
/-! ### numbers as signs -/
theorem numC_nat (n : Nat) : numC (n : Int) = numL n := tl_num n
theorem numC_neg (n : Nat) : numC (-((n + 1 : Nat) : Int)) = 45 :: numL (n + 1) := by
  unfold numC
  rw [tl_ofString]
  have e : toString (-((n + 1 : Nat) : Int)) = "-" ++ toString (n + 1) := rfl
  rw [e, String.toList_append, List.map_append]
  have e2 := tl_num (n + 1)
  rw [tl_ofString] at e2
  have e3 : toString (((n + 1 : Nat)) : Int) = toString (n + 1) := rfl
  rw [e3] at e2
  rw [e2] <;> rfl
theorem int_cases (n : Int) : (∃ k : Nat, n = k) ∨ ∃ k : Nat, n = -((k + 1 : Nat) : Int) := by
  cases n with
  | ofNat k => exact .inl ⟨k, rfl⟩
  | negSucc k => exact .inr ⟨k, rfl⟩
theorem numL_first (n : Nat) : ∃ c r, numL n = c :: r ∧ 48 ≤ c ∧ c ≤ 57 ∧ (c = 48 → n = 0) := by
  induction n using Nat.strongRecOn with
  | _ n ih =>
    by_cases h : n < 10
    · exact ⟨48 + n, [], numL_lt h, by omega, by omega, by omega⟩
    · obtain ⟨c, r, e, h1, h2, h3⟩ := ih (n / 10) (by omega)
      exact ⟨c, r ++ [48 + n % 10], by rw [numL_step (by omega), e] <;> rfl, h1, h2, fun q => by have := h3 q; omega⟩
/-- the signs of a number of at most sixty figures -/
structure NumOk (w : Cs) (n : Int) : Prop where
  /-- the figures behind a perhaps minus -/
  fig : ∃ f : Cs, f ≠ [] ∧ f.length ≤ 60 ∧ (∀ c ∈ f, 48 ≤ c ∧ c ≤ 57) ∧ ((w = f ∧ (f.head? = some 48 → w = [48])) ∨ (w = 45 :: f ∧ f.head? ≠ some 48))
theorem numL_digit {n c : Nat} (h : c ∈ numL n) : 48 ≤ c ∧ c ≤ 57 := numL_digits n c h
theorem numOk_of {n : Int} (h1 : -big < n) (h2 : n < big) : NumOk (numC n) n := by
  have hb := big_eq
  rcases int_cases n with ⟨k, rfl⟩ | ⟨k, rfl⟩
  · have hk : k < 10 ^ 60 := by
      rw [hb] at h2
      exact Int.ofNat_lt.mp h2
    refine ⟨⟨numL k, numL_ne k, numL_len (by decide) hk, fun c hc => numL_digit hc, .inl ⟨numC_nat k, fun e => ?_⟩⟩⟩
    obtain ⟨c, r, e2, _, _, h0⟩ := numL_first k
    rw [e2] at e
    have ec : c = 48 := Option.some.inj e
    have ek := h0 ec
    subst ek
    rw [numC_nat] <;> rfl
  · have hk : k + 1 < 10 ^ 60 := by
      rw [hb] at h1
      omega
    refine ⟨⟨numL (k + 1), numL_ne _, numL_len (by decide) hk, fun c hc => numL_digit hc, .inr ⟨numC_neg k, fun e => ?_⟩⟩⟩
    obtain ⟨c, r, e2, _, _, h0⟩ := numL_first (k + 1)
    rw [e2] at e
    have ec : c = 48 := Option.some.inj e
    have ek := h0 ec
    omega
theorem numC_chars {n : Int} : ∀ c ∈ numC n, c = 45 ∨ (48 ≤ c ∧ c ≤ 57) := by
  intro c hc
  rcases int_cases n with ⟨k, rfl⟩ | ⟨k, rfl⟩
  · rw [numC_nat] at hc
    exact .inr (numL_digit hc)
  · rw [numC_neg] at hc
    rcases List.mem_cons.mp hc with e | hc
    · exact .inl e
    · exact .inr (numL_digit hc)
theorem numC_ne {n : Int} : numC n ≠ [] := by
  rcases int_cases n with ⟨k, rfl⟩ | ⟨k, rfl⟩
  · rw [numC_nat]
    exact numL_ne k
  · rw [numC_neg]
    simp
theorem numC_len {n : Int} (h1 : -big < n) (h2 : n < big) : (numC n).length ≤ 61 := by
  obtain ⟨f, _, hl, _, h⟩ := numOk_of h1 h2
  rcases h with ⟨e, _⟩ | ⟨e, _⟩
  · rw [e]; omega
  · rw [e, List.length_cons]; omega
/-! ### signs cut at blanks -/
def spC (c : Nat) : Cs := if c = 40 then [32, 40, 32] else if c = 41 then [32, 41, 32] else if c = 10 then [32] else [c]
def spaced (l : Cs) : Cs := l.flatMap spC
theorem spaced_append (a b : Cs) : spaced (a ++ b) = spaced a ++ spaced b := List.flatMap_append
theorem spaced_cons (c : Nat) (b : Cs) : spaced (c :: b) = spC c ++ spaced b := List.flatMap_cons
theorem spaced_same {l : Cs} (h : ∀ c ∈ l, c ≠ 40 ∧ c ≠ 41 ∧ c ≠ 10) : spaced l = l := by
  induction l with
  | nil => rfl
  | cons c r ih =>
    obtain ⟨h1, h2, h3⟩ := h c List.mem_cons_self
    rw [spaced_cons, ih fun d hd => h d (List.mem_cons_of_mem _ hd)]
    unfold spC
    rw [if_neg h1, if_neg h2, if_neg h3] <;> rfl
/-- pieces between blanks, empty ones left out -/
def words (l : Cs) : List Cs := (spl [32] 0 [] l).filter (· ≠ [])
theorem spl_blank : ∀ (a b acc : Cs), spl [32] 0 acc (a ++ 32 :: b) = spl [32] 0 acc a ++ spl [32] 0 [] b
  | [], b, acc => by
    rw [List.nil_append, spl_hit (by rfl), spl_nil]
    rfl
  | c :: r, b, acc => by
    rw [List.cons_append]
    by_cases h : c = 32
    · subst h
      rw [spl_hit (by rfl), spl_hit (by rfl)]
      show acc :: spl [32] 0 [] (r ++ 32 :: b) = acc :: spl [32] 0 [] r ++ spl [32] 0 [] b
      rw [spl_blank r b [], List.cons_append]
    · have h1 : ∀ x : Cs, pre [32] (c :: x) = false := fun x => pre_of_head [] x h
      rw [spl_miss (h1 _), spl_miss (h1 _), spl_blank r b (acc ++ [c])]
theorem words_blank (a b : Cs) : words (a ++ 32 :: b) = words a ++ words b := by
  unfold words
  rw [spl_blank, List.filter_append]
theorem words_nil : words [] = [] := rfl
theorem words_one {w : Cs} (hne : w ≠ []) (h : ∀ c ∈ w, c ≠ 32) : words w = [w] := by
  unfold words
  have e : spl [32] 0 [] w = [w] := by
    have z := spl_last1 (s := 32) (S := []) (p := w) (acc := []) fun hm => h 32 hm rfl
    rw [List.nil_append] at z
    exact z
  rw [e, List.filter_cons, if_pos (by simp [hne])] <;> rfl
theorem words_lead (b : Cs) : words (32 :: b) = words b := by
  have e := words_blank [] b
  rw [words_nil] at e
  exact e
theorem words_trail (a : Cs) : words (a ++ [32]) = words a := by
  rw [words_blank, words_nil, List.append_nil]
/-- a sign behind brackets or blanks -/
theorem words_opn (b : Cs) : words (spaced (40 :: b)) = [40] :: words (spaced b) := by
  rw [spaced_cons]
  show words (32 :: ([40] ++ 32 :: spaced b)) = _
  rw [words_lead, words_blank, words_one (by simp) (by simp)]
  rfl
theorem words_cls (a : Cs) : words (spaced (a ++ [41])) = words (spaced a) ++ [[41]] := by
  rw [spaced_append]
  show words (spaced a ++ 32 :: ([41] ++ [32])) = _
  rw [words_blank, words_trail, words_one (w := [41]) (by simp) (by simp)]
theorem words_sp (a b : Cs) : words (spaced (a ++ 32 :: b)) = words (spaced a) ++ words (spaced b) := by
  rw [spaced_append, spaced_cons]
  exact words_blank _ _
theorem words_word {w : Cs} (hne : w ≠ []) (h : ∀ c ∈ w, c ≠ 32 ∧ c ≠ 40 ∧ c ≠ 41 ∧ c ≠ 10) : words (spaced w) = [w] := by
  rw [spaced_same fun c hc => ⟨(h c hc).2.1, (h c hc).2.2.1, (h c hc).2.2.2⟩]
  exact words_one hne fun c hc => (h c hc).1
theorem wordC_ne {c : Nat} (h : wordC c) : c ≠ 32 ∧ c ≠ 40 ∧ c ≠ 41 ∧ c ≠ 10 := by
  rcases h with h | h <;> omega
theorem WdOk.words {w : Cs} (h : WdOk w) : words (spaced w) = [w] := by
  obtain ⟨c, r, e, _⟩ := h.ne
  exact words_word (by rw [e]; simp) fun c hc => wordC_ne (h.all c hc)
theorem num_words (n : Int) : words (spaced (numC n)) = [numC n] := words_word numC_ne fun c hc => by
  rcases numC_chars c hc with h | h <;> omega
theorem wPick_ok : WdOk wPick := ⟨⟨112, [105, 99, 107], rfl, by decide, by decide⟩, by unfold wPick wordC; decide, by decide⟩
theorem wNow_ok : WdOk wNow := ⟨⟨110, [111, 119], rfl, by decide, by decide⟩, by unfold wNow wordC; decide, by decide⟩
theorem kd_words (kd : Kd) (b : Cs) : words (spaced (kd.txt ++ b)) = kd.tok.map Tk.cs ++ words (spaced b) := by
  cases kd with
  | call => rfl
  | pick =>
    show words (spaced ((wPick ++ [32]) ++ b)) = [wPick] ++ _
    rw [List.append_assoc]
    show words (spaced (wPick ++ 32 :: b)) = _
    rw [words_sp, wPick_ok.words]
  | now =>
    show words (spaced ((wNow ++ [32]) ++ b)) = [wNow] ++ _
    rw [List.append_assoc]
    show words (spaced (wNow ++ 32 :: b)) = _
    rw [words_sp, wNow_ok.words]
theorem joined_words : ∀ ps : List LT, (∀ p ∈ ps, words (spaced p.txt) = p.tok.map Tk.cs) → words (spaced (joinL [32] (LT.txts ps))) = (LT.toks ps).map Tk.cs
  | [], _ => rfl
  | [p], h => by
    show words (spaced p.txt) = (p.tok ++ []).map Tk.cs
    rw [List.append_nil]
    exact h p List.mem_cons_self
  | p :: q :: r, h => by
    show words (spaced (p.txt ++ ([32] ++ joinL [32] (LT.txts (q :: r))))) = (p.tok ++ LT.toks (q :: r)).map Tk.cs
    rw [List.map_append, ← joined_words (q :: r) fun x hx => h x (List.mem_cons_of_mem _ hx), ← h p List.mem_cons_self]
    exact words_sp _ _
/-- the text's signs, by the reader's way of cutting, are the tree's -/
theorem txt_words {nm : List Cs} (N : Names nm) : ∀ {n : Nat} {t : LT}, LOk nm n t → words (spaced t.txt) = t.tok.map Tk.cs
  | _, .num n, _ => by
    show words (spaced (numC n)) = [numC n]
    exact num_words n
  | n, .seen k w, h => by
    have h' : nm[k]? = some w := by cases n <;> (unfold LOk at h; exact h.2)
    exact (N.ok w (List.mem_of_getElem? h')).words
  | n, .free w, h => by
    obtain ⟨j, _, e⟩ : ∃ j, 2 ≤ j ∧ nm[j]? = some w := by cases n <;> (unfold LOk at h; exact h)
    exact (N.ok w (List.mem_of_getElem? e)).words
  | 0, .node _ _, h => by unfold LOk at h; exact h.elim
  | n + 1, .node kd ps, h => by
    unfold LOk at h
    have ih := joined_words ps fun p hp => txt_words N (h.2 p hp)
    show words (spaced (40 :: (kd.txt ++ (joinL [32] (LT.txts ps) ++ [41])))) = (Tk.opn :: (kd.tok ++ (LT.toks ps ++ [.cls]))).map Tk.cs
    rw [words_opn, kd_words, words_cls, ih, List.map_cons, List.map_append, List.map_append]
    rfl
/-! ### the reader's stack -/
abbrev Stk := List (List Tr)
/-- the last list with one tree more -/
def pushT : Stk → Tr → Option Stk
  | [], _ => none
  | [l], x => some [l ++ [x]]
  | a :: b :: r, x => (pushT (b :: r) x).map (a :: ·)
theorem pushT_last (rest : Stk) (l : List Tr) (x : Tr) : pushT (rest ++ [l]) x = some (rest ++ [l ++ [x]]) := by
  induction rest with
  | nil => rfl
  | cons a r ih =>
    cases r with
    | nil => rfl
    | cons b r =>
      show (pushT (b :: (r ++ [l])) x).map (a :: ·) = _
      have ih' : pushT (b :: (r ++ [l])) x = some (b :: (r ++ [l ++ [x]])) := ih
      rw [ih'] <;> rfl
/-- what one sign does -/
def rstep (st : Stk) : Tk → Option Stk
  | .opn => if st.length ≤ 60 then some (st ++ [[]]) else none
  | .cls => match st.reverse with
    | t :: p :: r => some (r.reverse ++ [p ++ [.row t]])
    | _ => none
  | .wd w => pushT st (.word w)
  | .nm n => pushT st (.fig n)
def rrun : List Tk → Stk → Option Stk
  | [], s => some s
  | k :: ks, s => (rstep s k).bind (rrun ks)
theorem rrun_append : ∀ (a b : List Tk) (s : Stk), rrun (a ++ b) s = (rrun a s).bind (rrun b)
  | [], b, s => rfl
  | k :: a, b, s => by
    show (rstep s k).bind (rrun (a ++ b)) = ((rstep s k).bind (rrun a)).bind (rrun b)
    cases rstep s k with
    | none => rfl
    | some s' => exact rrun_append a b s'
theorem rrun_wds : ∀ (kd : Kd) (rest : Stk) (l : List Tr), rrun kd.tok (rest ++ [l]) = some (rest ++ [l ++ kd.tr])
  | .call, rest, l => by
    show some (rest ++ [l]) = some (rest ++ [l ++ []])
    rw [List.append_nil]
  | .pick, rest, l => by
    show (pushT (rest ++ [l]) (.word wPick)).bind (rrun []) = _
    rw [pushT_last] <;> rfl
  | .now, rest, l => by
    show (pushT (rest ++ [l]) (.word wNow)).bind (rrun []) = _
    rw [pushT_last] <;> rfl
theorem rstep_cls (rest : Stk) (p t : List Tr) : rstep (rest ++ [p] ++ [t]) .cls = some (rest ++ [p ++ [.row t]]) := by
  have e : (rest ++ [p] ++ [t]).reverse = t :: p :: rest.reverse := by simp
  show (match (rest ++ [p] ++ [t]).reverse with | t :: p :: r => some (r.reverse ++ [p ++ [Tr.row t]]) | _ => none) = _
  rw [e]
  show some (rest.reverse.reverse ++ [p ++ [.row t]]) = _
  rw [List.reverse_reverse]
theorem rrun_list {nm : List Cs} {n : Nat} : ∀ (ps : List LT), (∀ p ∈ ps, ∀ (rest : Stk) (l : List Tr), rest.length + n ≤ 60 → rrun p.tok (rest ++ [l]) = some (rest ++ [l ++ [p.tr]])) →
    ∀ (rest : Stk) (l : List Tr), rest.length + n ≤ 60 → rrun (LT.toks ps) (rest ++ [l]) = some (rest ++ [l ++ LT.trs ps])
  | [], _, rest, l, _ => by
    show some (rest ++ [l]) = some (rest ++ [l ++ []])
    rw [List.append_nil]
  | p :: ps, h, rest, l, hl => by
    show rrun (p.tok ++ LT.toks ps) (rest ++ [l]) = some (rest ++ [l ++ (p.tr :: LT.trs ps)])
    rw [rrun_append, h p List.mem_cons_self rest l hl]
    show rrun (LT.toks ps) (rest ++ [l ++ [p.tr]]) = _
    rw [rrun_list (nm := nm) ps (fun q hq => h q (List.mem_cons_of_mem _ hq)) rest _ hl, List.append_assoc] <;> rfl
/-- reading a tree's signs lays the tree on the stack's last list -/
theorem rrun_tree {nm : List Cs} : ∀ {n : Nat} {t : LT}, LOk nm n t → ∀ (rest : Stk) (l : List Tr), rest.length + n ≤ 60 → rrun t.tok (rest ++ [l]) = some (rest ++ [l ++ [t.tr]])
  | _, .num n, _, rest, l, _ => by
    show (pushT (rest ++ [l]) (.fig n)).bind (rrun []) = _
    rw [pushT_last] <;> rfl
  | _, .seen k w, _, rest, l, _ => by
    show (pushT (rest ++ [l]) (.word w)).bind (rrun []) = _
    rw [pushT_last] <;> rfl
  | _, .free w, _, rest, l, _ => by
    show (pushT (rest ++ [l]) (.word w)).bind (rrun []) = _
    rw [pushT_last] <;> rfl
  | 0, .node _ _, h, _, _, _ => by unfold LOk at h; exact h.elim
  | n + 1, .node kd ps, h, rest, l, hl => by
    unfold LOk at h
    show (rstep (rest ++ [l]) .opn).bind (rrun (kd.tok ++ (LT.toks ps ++ [.cls]))) = _
    have hlen : (rest ++ [l]).length ≤ 60 := by rw [List.length_append, List.length_singleton]; omega
    have e1 : rstep (rest ++ [l]) .opn = some (rest ++ [l] ++ [[]]) := if_pos hlen
    rw [e1]
    show rrun (kd.tok ++ (LT.toks ps ++ [.cls])) (rest ++ [l] ++ [[]]) = _
    have hl2 : (rest ++ [l]).length + n ≤ 60 := by rw [List.length_append, List.length_singleton]; omega
    rw [rrun_append, rrun_wds]
    show rrun (LT.toks ps ++ [.cls]) (rest ++ [l] ++ [[] ++ kd.tr]) = _
    rw [rrun_append, rrun_list (nm := nm) ps (fun p hp r l' hr => rrun_tree (h.2 p hp) r l' hr) (rest ++ [l]) ([] ++ kd.tr) hl2]
    show (rstep (rest ++ [l] ++ [[] ++ kd.tr ++ LT.trs ps]) .cls).bind (rrun []) = _
    rw [rstep_cls, List.nil_append] <;> rfl
theorem read_tree {nm : List Cs} {n : Nat} {t : LT} (h : LOk nm n t) (hn : n ≤ 60) : rrun t.tok [[]] = some [[t.tr]] := rrun_tree h [] [] (by simpa using hn)
/-- every beginning of the signs runs through -/
theorem rrun_take {ks : List Tk} {s s' : Stk} (h : rrun ks s = some s') (i : Nat) : ∃ si, rrun (ks.take i) s = some si ∧ ∀ k, ks[i]? = some k → ∃ sj, rstep si k = some sj ∧ rrun (ks.take (i + 1)) s = some sj := by
  have e : rrun (ks.take i ++ ks.drop i) s = some s' := by rw [List.take_append_drop]; exact h
  rw [rrun_append] at e
  cases q : rrun (ks.take i) s with
  | none => rw [q] at e; cases e
  | some si =>
    rw [q] at e
    refine ⟨si, rfl, fun k hk => ?_⟩
    have hi : i < ks.length := (List.getElem?_eq_some_iff.mp hk).1
    have ed : ks.drop i = k :: ks.drop (i + 1) := by
      rw [List.drop_eq_getElem_cons hi]
      rw [(List.getElem?_eq_some_iff.mp hk).2]
    rw [ed] at e
    have e2 : (rstep si k).bind (rrun (ks.drop (i + 1))) = some s' := e
    cases q2 : rstep si k with
    | none => rw [q2] at e2; cases e2
    | some sj =>
      refine ⟨sj, rfl, ?_⟩
      have et : ks.take (i + 1) = ks.take i ++ [k] := by rw [List.take_succ, hk] <;> rfl
      rw [et, rrun_append, q]
      show (rstep si k).bind (rrun []) = _
      rw [q2] <;> rfl
/-! ### sizes -/
/-- a text of a tree at most n rows deep has at most this many signs -/
def tsz : Nat → Nat
  | 0 => 100
  | n + 1 => 4 * (tsz n + 1) + 10
theorem joinL_len : ∀ (ls : List Cs) (m : Nat), (∀ l ∈ ls, l.length ≤ m) → (joinL [32] ls).length ≤ ls.length * (m + 1)
  | [], m, _ => by simp [joinL]
  | [p], m, h => by
    show p.length ≤ _
    have := h p List.mem_cons_self
    simp only [List.length_cons, List.length_nil]
    omega
  | p :: q :: r, m, h => by
    show (p ++ ([32] ++ joinL [32] (q :: r))).length ≤ _
    have h1 := h p List.mem_cons_self
    have h2 := joinL_len (q :: r) m fun x hx => h x (List.mem_cons_of_mem _ hx)
    rw [List.length_append, List.length_append, List.length_singleton, List.length_cons (as := q :: r), Nat.succ_mul]
    omega
theorem txt_len {nm : List Cs} (N : Names nm) : ∀ {n : Nat} {t : LT}, LOk nm n t → t.txt.length ≤ tsz n
  | n, .num k, h => by
    have h' : -big < k ∧ k < big := by cases n <;> (unfold LOk at h; exact h)
    have := numC_len h'.1 h'.2
    show (numC k).length ≤ _
    cases n with
    | zero => show _ ≤ 100; omega
    | succ n => show _ ≤ 4 * (tsz n + 1) + 10; have : 100 ≤ tsz n := by clear h h' this; induction n with | zero => exact Nat.le_refl _ | succ n ih => show 100 ≤ 4 * (tsz n + 1) + 10; omega
                omega
  | n, .seen k w, h => by
    have h' : nm[k]? = some w := by cases n <;> (unfold LOk at h; exact h.2)
    have := (N.ok w (List.mem_of_getElem? h')).len
    show w.length ≤ _
    cases n with
    | zero => show _ ≤ 100; omega
    | succ n => show _ ≤ 4 * (tsz n + 1) + 10; have : 100 ≤ tsz n := by clear h h' this; induction n with | zero => exact Nat.le_refl _ | succ n ih => show 100 ≤ 4 * (tsz n + 1) + 10; omega
                omega
  | n, .free w, h => by
    obtain ⟨j, _, e⟩ : ∃ j, 2 ≤ j ∧ nm[j]? = some w := by cases n <;> (unfold LOk at h; exact h)
    have := (N.ok w (List.mem_of_getElem? e)).len
    show w.length ≤ _
    cases n with
    | zero => show _ ≤ 100; omega
    | succ n => show _ ≤ 4 * (tsz n + 1) + 10; have : 100 ≤ tsz n := by clear h this; induction n with | zero => exact Nat.le_refl _ | succ n ih => show 100 ≤ 4 * (tsz n + 1) + 10; omega
                omega
  | 0, .node _ _, h => by unfold LOk at h; exact h.elim
  | n + 1, .node kd ps, h => by
    unfold LOk at h
    have hp := h.1.pos
    have e : (LT.txts ps).length = ps.length := by rw [txts_map, List.length_map]
    have h1 := joinL_len (LT.txts ps) (tsz n) fun l hl => by
      rw [txts_map] at hl
      obtain ⟨p, hp, rfl⟩ := List.mem_map.mp hl
      exact txt_len N (h.2 p hp)
    rw [e] at h1
    have hk : kd.txt.length ≤ 5 := by cases kd <;> decide
    show (40 :: (kd.txt ++ (joinL [32] (LT.txts ps) ++ [41]))).length ≤ 4 * (tsz n + 1) + 10
    rw [List.length_cons, List.length_append, List.length_append, List.length_singleton]
    have h2 : ps.length * (tsz n + 1) ≤ 4 * (tsz n + 1) := Nat.mul_le_mul_right _ hp.2
    omega
/-- .. at most this many turns -/
def nsz : Nat → Nat
  | 0 => 1
  | n + 1 => 4 * nsz n + 1
theorem nsz_pos : ∀ n, 1 ≤ nsz n
  | 0 => Nat.le_refl _
  | n + 1 => by show 1 ≤ 4 * nsz n + 1; omega
theorem turns_pos (t : LT) : 1 ≤ t.turns := by
  cases t with
  | num n => exact Nat.le_refl _
  | seen k w => exact Nat.le_refl _
  | free w => exact Nat.le_refl _
  | node kd ps => show 1 ≤ 1 + LT.turnss ps; omega
theorem sum_le_mul : ∀ (l : List Nat) (m : Nat), (∀ x ∈ l, x ≤ m) → l.sum ≤ l.length * m
  | [], _, _ => by simp
  | x :: l, m, h => by
    have h1 := h x List.mem_cons_self
    have h2 := sum_le_mul l m fun y hy => h y (List.mem_cons_of_mem _ hy)
    rw [List.sum_cons, List.length_cons, Nat.succ_mul]
    omega
theorem turns_le {nm : List Cs} : ∀ {n : Nat} {t : LT}, LOk nm n t → t.turns ≤ nsz n
  | n, .num k, _ => nsz_pos n
  | n, .seen k w, _ => nsz_pos n
  | n, .free w, _ => nsz_pos n
  | 0, .node _ _, h => by unfold LOk at h; exact h.elim
  | n + 1, .node kd ps, h => by
    unfold LOk at h
    have hp := h.1.pos
    have h1 := sum_le_mul (ps.map LT.turns) (nsz n) fun x hx => by
      obtain ⟨p, hp, rfl⟩ := List.mem_map.mp hx
      exact turns_le (h.2 p hp)
    rw [List.length_map] at h1
    show 1 + LT.turnss ps ≤ 4 * nsz n + 1
    rw [turnss_map]
    have h2 : ps.length * nsz n ≤ 4 * nsz n := Nat.mul_le_mul_right _ hp.2
    omega
end Mh
namespace Mh
open PySem PySem.Spec PyProof.Rows L2
/-! ### rules that the layer lacks -/
section
variable {X : Cx}
/-- xs == [], xs a list of anything -/
def rNil (K : PySem.W.Frag) (neg : Bool) : R2 := fun x y H Q => ∃ a b xs, x = .ref a ∧ y = .ref b ∧ SqL K H a xs ∧ H b = some (.lst []) ∧ a ≠ b ∧ Q (.bl (if neg then !xs.isEmpty else xs.isEmpty)) H
theorem op_eq_nil (hu : X.A.units < cLine) : OpR X (compareOp .Eq) (rNil X.K false) := by
  intro pins s σ H x y v u Q I rx ry h
  obtain ⟨a, b, xs, rfl, rfl, hx, hy, hab, q⟩ := h
  cases (show v = Value.ref a from rx)
  cases (show u = Value.ref b from ry)
  obtain ⟨its, rv, p1, _⟩ := I.list hx
  obtain ⟨its2, rv2, p2, _⟩ := I.list (SqL.of hy)
  cases rv2
  cases xs with
  | nil =>
    cases rv
    exact (SeqAt.RcAt.lists (e := fun _ => true) p1.isList p2.isList rfl hu (fun j h1 _ => absurd h1 (by simp))) _ _ _ _ ⟨.bl true, H, I, rfl, q⟩
  | cons z r =>
    have e : (its.toArray.size != ([] : List Value).toArray.size) = true := by
      have := rv.length
      simp only [List.length_cons] at this
      simp [← this]
    exact (SeqAt.RcAt.lists_lengths p1.isList p2.isList e hu) _ _ _ _ ⟨.bl false, H, I, rfl, q⟩
theorem op_ne_nil (hu : X.A.units < cLine) : OpR X (compareOp .NotEq) (rNil X.K true) := by
  intro pins s σ H x y v u Q I rx ry h
  obtain ⟨a, b, xs, rfl, rfl, hx, hy, hab, q⟩ := h
  cases (show v = Value.ref a from rx)
  cases (show u = Value.ref b from ry)
  obtain ⟨its, rv, p1, _⟩ := I.list hx
  obtain ⟨its2, rv2, p2, _⟩ := I.list (SqL.of hy)
  cases rv2
  cases xs with
  | nil =>
    cases rv
    exact (SeqAt.RcNeAt.lists (e := fun _ => true) p1.isList p2.isList rfl hu (fun j h1 _ => absurd h1 (by simp))) _ _ _ _ ⟨.bl false, H, I, rfl, q⟩
  | cons z r =>
    have e : (its.toArray.size != ([] : List Value).toArray.size) = true := by
      have := rv.length
      simp only [List.length_cons] at this
      simp [← this]
    exact (SeqAt.RcNeAt.lists_lengths p1.isList p2.isList e hu) _ _ _ _ ⟨.bl true, H, I, rfl, q⟩
/-- text * n -/
theorem op_mul_str : OpR X (binaryOp .Mult) (fun x y H Q => ∃ z n, x = .str z ∧ y = .int n ∧ MulOk z n ∧ Q (.str (Txt.mul z n)) H) := by
  intro pins s σ H x y v u Q I rx ry h
  obtain ⟨z, n, rfl, rfl, hok, q⟩ := h
  obtain ⟨t, rfl⟩ := rx
  obtain ⟨t', rfl⟩ := ry
  exact SB.mul hok fun t'' k => ⟨.str _, H, I.tok k, ⟨_, rfl⟩, q⟩
/-- max(xs, default=d), xs a list of ints -/
theorem cr_maxD (hc : X.calm = true) (hu : X.A.units + 2 < cLine) : CallRK X (.builtin "max") [Str.ofString "default"]
    (fun vs zs H Q => ∃ (a : Addr) (ns : List Int) (d : Int), vs = [V.ref a] ∧ zs = [V.int d] ∧ SqL X.K H a (ns.map V.int) ∧ ∀ m : Int, Q (.int m) H) := by
  intro pins s σ H xs zs us ws Q I r1 r2 h
  obtain ⟨a, ns, d, rfl, rfl, hq, q⟩ := h
  obtain rfl := Vals.ref1 r1
  obtain ⟨its, rv, p, _⟩ := I.list hq
  cases r2 with
  | cons r rr =>
    cases rr
    obtain ⟨t, rfl⟩ := r
    have Hd : PySem.W.HoldAll s.heap its.toArray.toList ns := PySem.W.HoldAll.of_ints rv.ints
    refine PySem.W.max_list_datum_default (I.ok.hd hc) p.isList Hd (by have e : PySem.W.Datum.depth Int = 0 := rfl; rw [e]; omega) (fun _ h' tk hk => ?_) (fun y ys i v h' tk _ hi hh hk => ?_)
    · exact ⟨.int d, H, I.kept hk, ⟨t, rfl⟩, q d⟩
    · obtain ⟨t', ev⟩ := PySem.W.int_of_holds hh
      subst ev
      exact ⟨.int _, H, I.kept hk, ⟨t', rfl⟩, q _⟩
end
end Mh
namespace Mh
open PySem PySem.Spec PyProof.Rows L2 TL
/-! ### calls, by what is known of the callee -/
section
variable {P : Program} {w : World} {K : PySem.W.Frag} {mg : Str → Option Value} {base : Heap}
/-- the module's function x keeps sp; ps its parameters, dvs the defaults that fill up -/
structure CallF (P : Program) (w : World) (K : PySem.W.Frag) (mg : Str → Option Value) (base : Heap) (k : Nat) (x : Str) (ps : List Str) (dvs : List V) (sp : Sp) : Prop where
  ex : ∃ (f : Addr) (fd : FuncData) (ds : List Value), mg x = some (.ref f) ∧ PySem.W.keepIn K (.ref f) = true ∧ Binds K fd ps ds ∧ Vals dvs ds ∧ FnOk P w K mg base CX0 k f fd ps sp
/-- the method m of the class at C keeps sp -/
structure CallM (P : Program) (w : World) (K : PySem.W.Frag) (mg : Str → Option Value) (base : Heap) (k : Nat) (C : Addr) (m : Str) (ps : List Str) (dvs : List V) (sp : Sp) : Prop where
  ex : ∃ (f : Addr) (fd : FuncData) (ds : List Value), Cls K C ∧ Meth K C m f ∧ Binds K fd ps ds ∧ Vals dvs ds ∧ FnOk P w K mg base CX0 k f fd ps sp
/-- the class x, at C: its __init__ keeps sp -/
structure CallC (P : Program) (w : World) (K : PySem.W.Frag) (mg : Str → Option Value) (base : Heap) (k : Nat) (x : Str) (C : Addr) (ps : List Str) (dvs : List V) (sp : Sp) : Prop where
  ex : ∃ (f : Addr) (fd : FuncData) (ds : List Value), mg x = some (.ref C) ∧ Mk K C f ∧ Binds K fd ps ds ∧ Vals dvs ds ∧ FnOk P w K mg base CX0 k f fd ps sp
end
section
variable {X : Cx} {k : Nat} {C : Addr} {ps : List Str} {sp : Sp} {dvs : List V} {x m : Str} {p pos apos : Pos} {e o : Expr} {es : List Expr} {ta : TE} {t : TA}
theorem pf (c : CallF X.prog X.w X.K X.mg X.base k x ps dvs sp) (hr : Room k X.A) (hg : Gl X x) (ha : PA X (e :: es) t) (hdb : (x == ("__debug__" : Str)) = false := by decide)
    (he : starEach (e :: es) X.env = (false, eval e X.env) :: starEach es X.env := by rfl) (hpl : (backTo pos (starEach es X.env)).any (·.1) = false := by rfl) :
    PE X (.Call (.Name x p) (e :: es) [] pos) (tCall sp dvs E0 t) := by
  obtain ⟨f, fd, ds, h1, h2, h3, h4, G⟩ := c.ex
  exact pe_call G hr hg h1 h2 h3 h4 pass0 ha hdb he hpl
theorem pm {pl : Sem Bool} (c : CallM X.prog X.w X.K X.mg X.base k C m ps dvs sp) (he : PE X o ta) (hr : Room k X.A) (ha : PA X (e :: es) t)
    (hst : starEach (e :: es) X.env = (false, eval e X.env) :: starEach es X.env := by rfl) (hpl : (backTo pos (starEach es X.env)).any (·.1) = false := by rfl)
    (ht : eval (.Call (.Attribute o m apos) (e :: es) [] pos) X.env = (do
      let ov ← eval o X.env
      standAt apos.atName
      let (f, first) ← holding [ov] (getMethod ov m pl)
      callWith pos f first (backTo pos (starEach (e :: es) X.env)) (backToKw pos (keywordEach [] X.env))) := by rfl) :
    PE X (.Call (.Attribute o m apos) (e :: es) [] pos) (tMeth C m sp dvs E0 ta t) := by
  obtain ⟨f, fd, ds, h1, h2, h3, h4, G⟩ := c.ex
  exact pe_meth (pl := pl) he h1 h2 G hr h3 h4 pass0 ha hst hpl ht
theorem pm0 {pl : Sem Bool} (c : CallM X.prog X.w X.K X.mg X.base k C m ps dvs sp) (he : PE X o ta) (hr : Room k X.A)
    (ht : eval (.Call (.Attribute o m apos) [] [] pos) X.env = (do
      let ov ← eval o X.env
      standAt apos.atName
      let (f, first) ← holding [ov] (getMethod ov m pl)
      callWith pos f first (backTo pos (starEach [] X.env)) (backToKw pos (keywordEach [] X.env))) := by rfl) :
    PE X (.Call (.Attribute o m apos) [] [] pos) (tMeth C m sp dvs E0 ta tNil) := by
  obtain ⟨f, fd, ds, h1, h2, h3, h4, G⟩ := c.ex
  exact pe_meth0 (pl := pl) he h1 h2 G hr h3 h4 pass0 ht
theorem pc (c : CallC X.prog X.w X.K X.mg X.base k x C ps dvs sp) (hr : Room (k + 1) X.A) (hg : Gl X x) (ha : PA X (e :: es) t) (hdb : (x == ("__debug__" : Str)) = false := by decide)
    (he : starEach (e :: es) X.env = (false, eval e X.env) :: starEach es X.env := by rfl) (hpl : (backTo pos (starEach es X.env)).any (·.1) = false := by rfl) :
    PE X (.Call (.Name x p) (e :: es) [] pos) (tMake C sp dvs E0 t) := by
  obtain ⟨f, fd, ds, h1, h2, h3, h4, G⟩ := c.ex
  exact pe_make h2 G hr hg h1 h3 h4 pass0 ha hdb he hpl
theorem pc0 (c : CallC X.prog X.w X.K X.mg X.base k x C ps dvs sp) (hr : Room (k + 1) X.A) (hg : Gl X x) (hdb : (x == ("__debug__" : Str)) = false := by decide) :
    PE X (.Call (.Name x p) [] [] pos) (tMake C sp dvs E0 tNil) := by
  obtain ⟨f, fd, ds, h1, h2, h3, h4, G⟩ := c.ex
  exact pe_make0 h2 G hr hg h1 h3 h4 pass0 hdb
/-- C.m(self, ..): a plain function read off its class -/
def tCfn (C : Addr) (sp : Sp) (ta : TE) (t : TA) : TE := fun σ H Q => ta σ H fun x H1 => x = .ref C ∧ t σ H1 fun vs H2 => sp vs H2 Q E0
theorem pcf {pl : Sem Bool} {f : Addr} {fd : FuncData} (he : PE X o ta) (hrd : PySem.W.readsIn X.K C (.type "type") = true) (hga : PySem.W.specialIn X.K (.ref C) "__getattribute__" = some (some (.builtin "type.__getattribute__")))
    (hfi : PySem.W.findCls X.K (.ref C) (.type "type") m = some (.val (.ref f))) (kp : PySem.W.keepIn X.K (.ref f) = true) (G : FnOk X.prog X.w X.K X.mg X.base CX0 k f fd ps sp) (hb : Binds X.K fd ps []) (hr : Room k X.A) (ha : PA X (e :: es) t)
    (hst : starEach (e :: es) X.env = (false, eval e X.env) :: starEach es X.env := by rfl) (hpl : (backTo pos (starEach es X.env)).any (·.1) = false := by rfl)
    (ht : eval (.Call (.Attribute o m apos) (e :: es) [] pos) X.env = (do
      let ov ← eval o X.env
      standAt apos.atName
      let (f, first) ← holding [ov] (getMethod ov m pl)
      callWith pos f first (backTo pos (starEach (e :: es) X.env)) (backToKw pos (keywordEach [] X.env))) := by rfl) :
    PE X (.Call (.Attribute o m apos) (e :: es) [] pos) (tCfn C sp ta t) := by
  refine ⟨fun pins s σ H Q I h => ?_⟩
  refine PySem.W.methodCall_KW (pl := pl) (thn (he.run pins s σ H _ I h) fun u s1 ⟨x, H1, I1, rx, ex, q⟩ => ?_) ht
  subst ex
  obtain rfl : u = Value.ref C := rx
  refine PySem.W.method_cls I1.kIn hga (PySem.W.cls_value I1.kIn hrd hfi rfl ?_)
  refine PySem.W.callWith_K (h₀ := X.base) I1.ok.mod.kin kp (thn (ha.run pos pins _ σ H1 _ (I1.tok _) q) fun us s3 ⟨vs, H2, I3, rv, q2⟩ => ⟨I3.kIn, ?_⟩) hst hpl
  exact run_fn (dvs := []) (ds := []) G hr hb .nil pass0 I3 rv (by rw [List.append_nil]; exact q2)
end
/-! ### zip of two tuples, as a walk -/
theorem walk_zipT {K : PySem.W.Frag} {a b : Addr} {xs ys : List V} {n : Nat} (hn : n = min xs.length ys.length) : Walk (RZ.ItzT K a b) n (fun H => SqT K H a xs ∧ SqT K H b ys) (YPair (fun i => xs[i]?) (fun i => ys[i]?)) := by
  subst hn
  refine ⟨fun i _ hi q => ?_, fun _ q => ⟨xs, ys, q.1, q.2, by omega⟩, fun i H v H' _ q y => ?_⟩
  · have h1 : i < xs.length := by omega
    have h2 : i < ys.length := by omega
    exact ⟨xs, ys, xs[i], ys[i], q.1, q.2, by simp [h1], by simp [h2]⟩
  · obtain ⟨T, x, z, h1, h2, h3, h4, h5⟩ := y
    exact ⟨T, x, z, h1, h2, h3, h4 xs q.1, h5 ys q.2⟩
/-! ### heaps -/
/-- all but the objects at L are as they were -/
def Fr (L : List Addr) (H H' : Hp) : Prop := ∀ b o, H b = some o → b ∉ L → H' b = some o
theorem Fr.of_same {L : List Addr} {H H' : Hp} (h : Same H H') : Fr L H H' := fun b o e _ => h b o e
theorem Fr.same {H H' : Hp} (h : Fr [] H H') : Same H H' := fun b o e => h b o e (by simp)
theorem Fr.trans {L : List Addr} {H H1 H2 : Hp} (a : Fr L H H1) (b : Fr L H1 H2) : Fr L H H2 := fun c o e hc => b c o (a c o e hc) hc
theorem Fr.mono {L M : List Addr} {H H' : Hp} (a : Fr L H H') (h : ∀ b, b ∈ L → b ∈ M) : Fr M H H' := fun c o e hc => a c o e fun q => hc (h c q)
theorem Fr.free {L : List Addr} {H H' : Hp} (e : Fr L H H') {l : Addr} (h : H' l = Option.none) (hl : l ∉ L) : H l = Option.none := by
  cases q : H l with
  | none => rfl
  | some o =>
    rw [e l o q hl] at h
    cases h
theorem Fr.put {L : List Addr} {H : Hp} {a : Addr} {o : HO} (h : a ∈ L ∨ H a = none) : Fr L H (upd H a o) := fun b u e hb => by
  have ne : b ≠ a := by
    rintro rfl
    rcases h with h | h
    · exact hb h
    · rw [h] at e; cases e
  rw [upd_ne ne]
  exact e
theorem Same.put {H : Hp} {a : Addr} {o : HO} (h : H a = none) : Same H (upd H a o) := fun b u e => by
  rw [upd_ne (ne_of_none e h)]
  exact e
theorem Same.put2 {H : Hp} {x dx : Addr} {o u : HO} (h : H x = none) (h2 : H dx = none) : Same H (upd (upd H dx u) x o) := fun b v e => by
  rw [upd_ne (ne_of_none e h), upd_ne (ne_of_none e h2)]
  exact e
/-- a part of the heap -/
noncomputable def mask (p : Addr → Prop) (H : Hp) : Hp := fun b => open Classical in if p b then none else H b
theorem mask_in {p : Addr → Prop} {H : Hp} {b : Addr} (h : p b) : mask p H b = none := by
  unfold mask
  exact if_pos h
theorem mask_out {p : Addr → Prop} {H : Hp} {b : Addr} (h : ¬ p b) : mask p H b = H b := by
  unfold mask
  exact if_neg h
theorem mask_sub {p : Addr → Prop} {H : Hp} : Same (mask p H) H := fun b o e => by
  by_cases h : p b
  · rw [mask_in h] at e; cases e
  · rw [mask_out h] at e; exact e
theorem mask_some {p : Addr → Prop} {H : Hp} {b : Addr} {o : HO} (e : mask p H b = some o) : ¬ p b ∧ H b = some o := by
  by_cases h : p b
  · rw [mask_in h] at e; cases e
  · rw [mask_out h] at e; exact ⟨h, e⟩
theorem mask_mk {p : Addr → Prop} {H : Hp} {b : Addr} {o : HO} (h : ¬ p b) (e : H b = some o) : mask p H b = some o := by rw [mask_out h]; exact e
/-- what is unmasked stays so -/
theorem mask_same {p q : Addr → Prop} {H H' : Hp} (h : ∀ b o, H b = some o → ¬ p b → ¬ q b ∧ H' b = some o) : Same (mask p H) (mask q H') := fun b o e => by
  obtain ⟨h1, h2⟩ := mask_some e
  obtain ⟨h3, h4⟩ := h b o h2 h1
  exact mask_mk h3 h4
/-! ### the objects of the program -/
/-- a text of such signs -/
def S (l : Cs) : Str := ⟨l.toArray⟩
theorem tl_S (l : Cs) : tl (S l) = l := rfl
theorem S_tl (z : Str) : S (tl z) = z := mk_tl z
theorem S_inj {a b : Cs} (h : S a = S b) : a = b := by
  have := congrArg tl h
  exact this
theorem S_len (l : Cs) : (S l).length = l.length := by
  show l.toArray.size = l.length
  simp
def wdF (i : Int) (nm : Str) : List (Str × V) := [("at", .int i), ("many", .int 1), ("deep", .int 0), ("name", .str nm), ("bits", .int 0)]
def fgF (i n : Int) : List (Str × V) := [("at", .int i), ("many", .int 1), ("deep", .int 0), ("number", .int n)]
def rwF (i m d : Int) (l : Addr) : List (Str × V) := [("at", .int i), ("many", .int m), ("deep", .int d), ("parts", .ref l)]
def spF (t d k g c b : V) : List (Str × V) := [("tree", t), ("depth", d), ("kind", k), ("given", g), ("claim", c), ("below", b)]
def clF (rw_ : V) : List (Str × V) := [("rows", rw_)]
def mkF (cl a1 a2 a3 ak rt wt p t : V) : List (Str × V) := [("most", .int 40), ("claims", cl), ("macros", a1), ("stretches", a2), ("steps", a3), ("asked", ak), ("roots", rt), ("waiting", wt), ("places", p), ("tops", t)]
section
variable {i n m d : Int} {nm : Str} {l : Addr}
theorem wd_at : (wdF i nm).lookup ("at" : Str) = some (.int i) := by kernel_rfl
theorem wd_many : (wdF i nm).lookup ("many" : Str) = some (.int 1) := by kernel_rfl
theorem wd_deep : (wdF i nm).lookup ("deep" : Str) = some (.int 0) := by kernel_rfl
theorem wd_name : (wdF i nm).lookup ("name" : Str) = some (.str nm) := by kernel_rfl
theorem wd_bits : (wdF i nm).lookup ("bits" : Str) = some (.int 0) := by kernel_rfl
theorem fg_many : (fgF i n).lookup ("many" : Str) = some (.int 1) := by kernel_rfl
theorem fg_deep : (fgF i n).lookup ("deep" : Str) = some (.int 0) := by kernel_rfl
theorem fg_number : (fgF i n).lookup ("number" : Str) = some (.int n) := by kernel_rfl
theorem rw_many : (rwF i m d l).lookup ("many" : Str) = some (.int m) := by kernel_rfl
theorem rw_deep : (rwF i m d l).lookup ("deep" : Str) = some (.int d) := by kernel_rfl
theorem rw_parts : (rwF i m d l).lookup ("parts" : Str) = some (.ref l) := by kernel_rfl
end
section
variable {t d k g c b z : V}
theorem sp_tree : (spF t d k g c b).lookup ("tree" : Str) = some t := by kernel_rfl
theorem sp_depth : (spF t d k g c b).lookup ("depth" : Str) = some d := by kernel_rfl
theorem sp_kind : (spF t d k g c b).lookup ("kind" : Str) = some k := by kernel_rfl
theorem sp_given : (spF t d k g c b).lookup ("given" : Str) = some g := by kernel_rfl
theorem sp_claim : (spF t d k g c b).lookup ("claim" : Str) = some c := by kernel_rfl
theorem sp_below : (spF t d k g c b).lookup ("below" : Str) = some b := by kernel_rfl
theorem sp_settle : (spF t d k g c b).lookup ("settle" : Str) = none := by kernel_rfl
theorem sp_spread : (spF t d k g c b).lookup ("spread" : Str) = none := by kernel_rfl
theorem sp_p_kind : putF ("kind" : Str) z (spF t d k g c b) = spF t d z g c b := by kernel_rfl
theorem sp_p_given : putF ("given" : Str) z (spF t d k g c b) = spF t d k z c b := by kernel_rfl
theorem sp_p_claim : putF ("claim" : Str) z (spF t d k g c b) = spF t d k g z b := by kernel_rfl
theorem sp_p_below : putF ("below" : Str) z (spF t d k g c b) = spF t d k g c z := by kernel_rfl
theorem cl_rows : (clF z).lookup ("rows" : Str) = some z := by kernel_rfl
theorem cl_put : (clF z).lookup ("put" : Str) = none := by kernel_rfl
theorem cl_open : (clF z).lookup ("open_to" : Str) = none := by kernel_rfl
theorem cl_under : (clF z).lookup ("is_under" : Str) = none := by kernel_rfl
theorem cl_of : (clF z).lookup ("claim_of" : Str) = none := by kernel_rfl
end
section
variable {cl a1 a2 a3 ak rt wt p t z : V}
theorem mk_claims : (mkF cl a1 a2 a3 ak rt wt p t).lookup ("claims" : Str) = some cl := by kernel_rfl
theorem mk_asked : (mkF cl a1 a2 a3 ak rt wt p t).lookup ("asked" : Str) = some ak := by kernel_rfl
theorem mk_roots : (mkF cl a1 a2 a3 ak rt wt p t).lookup ("roots" : Str) = some rt := by kernel_rfl
theorem mk_waiting : (mkF cl a1 a2 a3 ak rt wt p t).lookup ("waiting" : Str) = some wt := by kernel_rfl
theorem mk_places : (mkF cl a1 a2 a3 ak rt wt p t).lookup ("places" : Str) = some p := by kernel_rfl
theorem mk_tops : (mkF cl a1 a2 a3 ak rt wt p t).lookup ("tops" : Str) = some t := by kernel_rfl
theorem mk_ask : (mkF cl a1 a2 a3 ak rt wt p t).lookup ("ask" : Str) = none := by kernel_rfl
theorem mk_meaning : (mkF cl a1 a2 a3 ak rt wt p t).lookup ("meaning" : Str) = none := by kernel_rfl
theorem mk_place : (mkF cl a1 a2 a3 ak rt wt p t).lookup ("place" : Str) = none := by kernel_rfl
theorem mk_top : (mkF cl a1 a2 a3 ak rt wt p t).lookup ("top" : Str) = none := by kernel_rfl
theorem mk_put : (mkF cl a1 a2 a3 ak rt wt p t).lookup ("put" : Str) = none := by kernel_rfl
theorem mk_p_waiting : putF ("waiting" : Str) z (mkF cl a1 a2 a3 ak rt wt p t) = mkF cl a1 a2 a3 ak rt z p t := by kernel_rfl
theorem mk_p_places : putF ("places" : Str) z (mkF cl a1 a2 a3 ak rt wt p t) = mkF cl a1 a2 a3 ak rt wt z t := by kernel_rfl
theorem mk_p_tops : putF ("tops" : Str) z (mkF cl a1 a2 a3 ak rt wt p t) = mkF cl a1 a2 a3 ak rt wt p z := by kernel_rfl
end
abbrev cW (K : PySem.W.Frag) : Addr := He.ga K "Word"
abbrev cF (K : PySem.W.Frag) : Addr := He.ga K "Figure"
abbrev cR (K : PySem.W.Frag) : Addr := He.ga K "Row"
abbrev cS (K : PySem.W.Frag) : Addr := He.ga K "Spot"
abbrev cM (K : PySem.W.Frag) : Addr := He.ga K "Maker"
abbrev cC (K : PySem.W.Frag) : Addr := He.ga K "Claims"
/-- a parse tree stands at a -/
inductive TreeAt (K : PySem.W.Frag) (H : Hp) : Addr → Tr → Prop where
  | word {a dx : Addr} {i : Int} {w : Cs} : H a = some (.ins (cW K) dx (wdF i (S w))) → TreeAt K H a (.word w)
  | fig {a dx : Addr} {i n : Int} : H a = some (.ins (cF K) dx (fgF i n)) → TreeAt K H a (.fig n)
  | row {a dx l : Addr} {i m d : Int} {as : List Addr} {ts : List Tr} : H a = some (.ins (cR K) dx (rwF i m d l)) → H l = some (.lst (as.map V.ref)) → as.length = ts.length →
      (∀ (j : Nat) b t, as[j]? = some b → ts[j]? = some t → TreeAt K H b t) → TreeAt K H a (.row ts)
theorem TreeAt.mono {K : PySem.W.Frag} {H H' : Hp} (s : Same H H') {a : Addr} {t : Tr} (h : TreeAt K H a t) : TreeAt K H' a t := by
  induction h with
  | word e => exact .word (s _ _ e)
  | fig e => exact .fig (s _ _ e)
  | row e1 e2 e3 _ ih => exact .row (s _ _ e1) (s _ _ e2) e3 fun j b t h1 h2 => ih j b t h1 h2
/-- what stands at a is an instance of one of the tree classes -/
structure Nd (K : PySem.W.Frag) (H : Hp) (a : Addr) : Prop where
  ex : ∃ (C dx : Addr) (fs : List (Str × V)) (m d : Int), H a = some (.ins C dx fs) ∧ Cls K C ∧ NoAttr K C "many" ∧ NoAttr K C "deep" ∧ fs.lookup ("many" : Str) = some (.int m) ∧ fs.lookup ("deep" : Str) = some (.int d)
theorem TreeAt.nd {K : PySem.W.Frag} {mg : Str → Option Value} (T : Txt K mg) {H : Hp} {a : Addr} {t : Tr} (h : TreeAt K H a t) : Nd K H a := by
  cases h with
  | word e => exact ⟨_, _, _, _, _, e, T.c_Word, T.n_Word_many, T.n_Word_deep, wd_many, wd_deep⟩
  | fig e => exact ⟨_, _, _, _, _, e, T.c_Figure, T.n_Figure_many, T.n_Figure_deep, fg_many, fg_deep⟩
  | row e _ _ _ => exact ⟨_, _, _, _, _, e, T.c_Row, T.n_Row_many, T.n_Row_deep, rw_many, rw_deep⟩
theorem Nd.mono {K : PySem.W.Frag} {H H' : Hp} (s : Same H H') {a : Addr} (h : Nd K H a) : Nd K H' a := by
  obtain ⟨C, dx, fs, m, d, e, r⟩ := h.ex
  exact ⟨C, dx, fs, m, d, s _ _ e, r⟩
/-! ### isinstance of the three -/
section
variable {K : PySem.W.Frag} {mg : Str → Option Value} {H : Hp} {a dx : Addr} {fs : List (Str × V)}
theorem ty_word (T : Txt K mg) (e : H a = some (.ins (cW K) dx fs)) : TyX K H (.ref a) (.ref (cW K)) :=
  .base (.ins e T.c_Word (isB_ok T.exP.iW).1 T.exP.sp T.exP.tk (isB_ok T.exP.iW).2)
theorem ty_fig (T : Txt K mg) (e : H a = some (.ins (cF K) dx fs)) : TyX K H (.ref a) (.ref (cF K)) :=
  .base (.ins e T.c_Figure (isB_ok T.exP.iF).1 T.exP.sp T.exP.tk (isB_ok T.exP.iF).2)
theorem ty_row (T : Txt K mg) (e : H a = some (.ins (cR K) dx fs)) : TyX K H (.ref a) (.ref (cR K)) :=
  .base (.ins e T.c_Row (isB_ok T.exP.iR).1 T.exP.sp T.exP.tk (isB_ok T.exP.iR).2)
theorem kit_same {c : Value} : PySem.W.kitOne K c c = some true := by
  unfold PySem.W.kitOne
  rw [if_pos (by simp)]
end
end Mh
namespace Mh
open PySem PySem.Spec PyProof.Rows L2 TL
/-- a module's name that stands for an object; a text; a number -/
theorem pgr {X : Cx} {x : Str} {a : Addr} {pos : Pos} (hm : X.mg x = some (.ref a)) (hg : Gl X x := by rfl) (hd : (x == ("__debug__" : Str)) = false := by decide) : PE X (.Name x pos) (tC (.ref a)) := pe_glob hg hm rfl hd
theorem pgs {X : Cx} {x z : Str} {pos : Pos} (hm : ∃ t, X.mg x = some (.str z t)) (hg : Gl X x := by rfl) (hd : (x == ("__debug__" : Str)) = false := by decide) : PE X (.Name x pos) (tC (.str z)) := by
  obtain ⟨t, h⟩ := hm
  exact pe_glob hg h ⟨t, rfl⟩ hd
theorem pgi {X : Cx} {x : Str} {i : Int} {pos : Pos} (hm : ∃ t, X.mg x = some (.int i t)) (hg : Gl X x := by rfl) (hd : (x == ("__debug__" : Str)) = false := by decide) : PE X (.Name x pos) (tC (.int i)) := by
  obtain ⟨t, h⟩ := hm
  exact pe_glob hg h ⟨t, rfl⟩ hd
theorem ifF {b : Bool} {A B : Prop} (hb : b = false) (h : B) : if b = true then A else B := by
  rw [hb, if_neg Bool.false_ne_true]
  exact h
theorem ifT {b : Bool} {A B : Prop} (hb : b = true) (h : A) : if b = true then A else B := by
  rw [hb, if_pos rfl]
  exact h
theorem hu1 {A : Around} {k : Nat} (hr : Room k A) : A.units < cLine := by have := hr.un; omega
theorem hu2 {A : Around} {k : Nat} (hr : Room k A) : A.units + 2 < cLine := by have := hr.un; omega
theorem hu64 {A : Around} {k : Nat} (hr : Room k A) : A.units + 64 < cLine := by have := hr.un; omega
theorem sl1000 {n : Nat} (h : n ≤ 1000) : n < sizeLine := Nat.lt_of_le_of_lt h (by decide)
theorem sl1000' {n : Nat} (h : n ≤ 1000) : n ≤ sizeLine := Nat.le_of_lt (sl1000 h)
/-- behind no test -/
theorem yes {σ : L2.St} {H : Hp} {A B : Hp → Prop} (h : A H) : tYes σ H fun b H3 => if b = true then A H3 else B H3 := by
  show if true = true then A H else B H
  rw [if_pos rfl]
  exact h
/-- a comprehension whose element changes nothing: Y tells of the j-th item what it is -/
theorem lc_map {K : PySem.W.Frag} {a : Addr} {xs : List V} {i : Nat} {te : TE} {σ : L2.St} {H1 : Hp} {D : Addr} {Qd : Hp → Prop} (Y : Nat → V → Prop) (hx : SqL K H1 a xs) (hl : xs.length ≤ 1000) (hD : H1 D = none)
    (hw : ∀ x : V, wipe ((wipe σ [i]).set i (some x)) [i] = wipe σ [i])
    (he : ∀ (j : Nat) x acc (Q : VK), xs[j]? = some x → (∀ y, Y j y → Q y (upd H1 D (.lst acc))) → te ((wipe σ [i]).set i (some x)) (upd H1 D (.lst acc)) Q)
    (hd : ∀ ys : List V, ys.length = xs.length → (∀ (j : Nat) y, ys[j]? = some y → Y j y) → Qd (upd H1 D (.lst ys))) :
    ∃ W : Nat → Nat → Hp → Prop, (∃ m, W 0 m (upd H1 D (.lst []))) ∧ ∀ i' m H, W i' m H →
      ((Itl K a).stop i' H ∧ Qd H) ∨ ((Itl K a).go i' H ∧ ∃ Nx : Hp → Prop, (∀ H', Nx H' → ∃ m', m' < m ∧ W (i' + 1) m' H') ∧ ∀ x H', (Itl K a).yld i' H x H' → gName i x (wipe σ [i]) H' fun σ2 H2 => wipe σ2 [i] = wipe σ [i] ∧ tYes σ2 H2 fun b H3 =>
        if b = true then te σ2 H3 fun y H4 => ∃ acc, H4 D = some (.lst acc) ∧ acc.length < sizeLine ∧ Nx (upd H4 D (.lst (acc ++ [y]))) else Nx H3) := by
  refine lc_list (K := K) (a := a) (xs := xs) (fun j H => ∃ ys : List V, H = upd H1 D (.lst ys) ∧ ys.length = j ∧ ∀ (j : Nat) y, ys[j]? = some y → Y j y) ⟨[], rfl, rfl, fun j y h => by simp at h⟩ ?_ ?_ ?_
  · rintro j H _ ⟨ys, rfl, _⟩
    exact (Same.put hD).seq hx
  · rintro j x H hj ⟨ys, rfl, hl2, hy⟩
    refine ⟨hw x, ?_⟩
    refine yes (he j x ys _ hj fun y q => ?_)
    have hjl : j < xs.length := (List.getElem?_eq_some_iff.mp hj).1
    refine ⟨ys, upd_same, sl1000 (by omega), ys ++ [y], upd_upd, by rw [List.length_append, hl2] <;> rfl, fun j' y' h => ?_⟩
    by_cases hlt : j' < ys.length
    · rw [List.getElem?_append_left hlt] at h
      exact hy j' y' h
    · rw [List.getElem?_append_right (by omega)] at h
      have e : j' - ys.length = 0 := by
        by_cases e : j' - ys.length = 0
        · exact e
        · rw [List.getElem?_eq_none (by simp; omega)] at h
          cases h
      rw [e] at h
      have ey : y = y' := Option.some.inj h
      have ej : j' = j := by omega
      rw [← ey, ej]
      exact q
  · rintro H ⟨ys, rfl, hl2, hy⟩
    exact hd ys hl2 hy
/-- a list of ints, told item by item -/
theorem ints_of {ys : List V} (h : ∀ (j : Nat) y, ys[j]? = some y → ∃ i : Int, y = .int i) : ∃ ns : List Int, ys = ns.map V.int := by
  induction ys with
  | nil => exact ⟨[], rfl⟩
  | cons y r ih =>
    obtain ⟨i, rfl⟩ := h 0 y rfl
    obtain ⟨ns, rfl⟩ := ih fun j z hz => h (j + 1) z (by simpa using hz)
    exact ⟨i :: ns, rfl⟩
section
variable {P : Program} {w : World} {K : PySem.W.Frag} {mg : Str → Option Value} {base : Heap}
theorem okN {x qual : Str} {params : Arguments} {body : List Stmt} {scope : Scope} {dvs : List V} {kws : List (Str × V)} {f : Addr} {fd : FuncData} {N ps : List Str} {k : Nat} {sp : Sp} (F : FunD K x qual params body scope dvs kws f fd) (Sc : FnScope N ps scope)
    (len : ∀ vs H Q E, sp vs H Q E → vs.length = ps.length)
    (hbody : ∀ (cdv : Value) (A : Around) (outer : List Env) (s : Shared) (H : Hp) (vs : List V) (Q : VK) (E : XK), Room k (A.deeper (envOfC qual scope s.heap.objs.size f cdv)) → sp vs H Q E →
      ∃ t, PSs (cxOf CX0 P w K mg base N qual scope f cdv A outer s H E).nox body t ∧ t { nx := fun _ H' => Q .non H', rt := Q } (start N vs) H) : FnOk P w K mg base CX0 (k + 1) f fd ps sp :=
  F.ok Sc len fun cdv A outer s H vs Q E hr hsp => let ⟨t, h, q⟩ := hbody cdv A outer s H vs Q E hr hsp; ⟨t, h.nox, q⟩
/-! ### sets.within: of two empty sets -/
theorem sc_within : FnScope ["one", "other"] ["one", "other"] (defScope s_within) := ⟨rfl, rfl, rfl, by decide +kernel, rfl, by decide +kernel, by decide +kernel⟩
def spWithin : Sp := fun vs H Q _ => vs = [.int 0, .int 0] ∧ Q (.bl true) H
theorem ok_within (T : Txt K mg) : CallF P w K mg base 1 "within" ["one", "other"] [] spWithin := by
  obtain ⟨fd, F⟩ := T.f_within
  refine ⟨_, fd, [], T.g_within, F.kp, F.bindsN (ps := ["one", "other"]) (fun _ _ _ _ _ _ us hl => match us, hl with | [_, _], _ => rfl), .nil, okN F sc_within (fun vs H Q E h => by rw [h.1] <;> rfl) fun cdv A outer s H vs Q E hr h => ?_⟩
  obtain ⟨rfl, q⟩ := h
  refine ⟨_, pss_one (ps_ret (pe_cmpR op_eq (pe_op op_and (pv 0) (pv 1)) (pv 0) (nomark _))), ?_⟩
  refine ⟨_, rfl, _, rfl, _, _, rfl, rfl, _, rfl, rfl, ?_⟩
  exact q
/-! ### trees -/
theorem sc_tree : FnScope ["self", "at", "many", "deep"] ["self", "at", "many", "deep"] (defScope sTree_init) := ⟨rfl, rfl, rfl, by decide +kernel, rfl, by decide +kernel, by decide +kernel⟩
def trF (i m d : Int) : List (Str × V) := [("at", .int i), ("many", .int m), ("deep", .int d)]
def spTreeI (K : PySem.W.Frag) : Sp := fun vs H Q _ => ∃ (a C dx : Addr) (i m d : Int), vs = [.ref a, .int i, .int m, .int d] ∧ Cls K C ∧ NoAttr K C "at" ∧ NoAttr K C "many" ∧ NoAttr K C "deep" ∧ H a = some (.ins C dx []) ∧
  Q .non (upd H a (.ins C dx (trF i m d)))
def trA (i : Int) : List (Str × V) := [("at", .int i)]
def trB (i m : Int) : List (Str × V) := [("at", .int i), ("many", .int m)]
theorem tr_1 {i : Int} : putF ("at" : Str) (.int i) [] = trA i := rfl
theorem tr_2 {i m : Int} : putF ("many" : Str) (.int m) (trA i) = trB i m := by kernel_rfl
theorem tr_3 {i m d : Int} : putF ("deep" : Str) (.int d) (trB i m) = trF i m d := by kernel_rfl
theorem ok_tree (T : Txt K mg) : ∃ fd, Binds K fd ["self", "at", "many", "deep"] [] ∧ PySem.W.keepIn K (.ref (He.ma K (He.ga K "Tree") "__init__")) = true ∧ FnOk P w K mg base CX0 1 (He.ma K (He.ga K "Tree") "__init__") fd ["self", "at", "many", "deep"] (spTreeI K) := by
  obtain ⟨fd, F⟩ := T.f_Tree_init
  refine ⟨fd, F.bindsN (ps := ["self", "at", "many", "deep"]) (fun _ _ _ _ _ _ us hl => match us, hl with | [_, _, _, _], _ => rfl), F.kp, okN F sc_tree (fun vs H Q E h => ?_) fun cdv A outer s H vs Q E hr h => ?_⟩
  · obtain ⟨a, C, dx, i, m, d, rfl, _⟩ := h
    rfl
  obtain ⟨a, C, dx, i, m, d, rfl, cl, n1, n2, n3, ha, q⟩ := h
  refine ⟨_, pss_cons (ps_fld (pv 0) (pv 1) rfl) (pss_cons (ps_fld (pv 0) (pv 2) rfl) (pss_one (ps_fld (pv 0) (pv 3) rfl))), ?_⟩
  refine ⟨_, rfl, _, rfl, a, C, dx, _, rfl, ha, cl, n1, (by show 0 < 1000; decide), _, rfl, _, rfl, a, C, dx, _, rfl, upd_same, cl, n2, (by show 1 < 1000; decide), _, rfl, _, rfl, a, C, dx, _, rfl, upd_same, cl, n3, (by rw [tr_1, tr_2]; show 2 < 1000; decide), ?_⟩
  show Q .non _
  rw [upd_upd, upd_upd, tr_1, tr_2, tr_3]
  exact q
end
end Mh
namespace Mh
open PySem PySem.Spec PyProof.Rows L2 TL
section
variable {P : Program} {w : World} {K : PySem.W.Frag} {mg : Str → Option Value} {base : Heap}
/-! ### Word, Figure, Row -/
theorem sc_word : FnScope ["self", "name", "at", "bits"] ["self", "name", "at", "bits"] (defScope sWord_init) := ⟨rfl, rfl, rfl, by decide +kernel, rfl, by decide +kernel, by decide +kernel⟩
def spWordI (K : PySem.W.Frag) : Sp := fun vs H Q _ => ∃ (a dx : Addr) (nm : Str) (i : Int), vs = [.ref a, .str nm, .int i, .int 0] ∧ H a = some (.ins (cW K) dx []) ∧ Q .non (upd H a (.ins (cW K) dx (wdF i nm)))
def wdA (i : Int) (nm : Str) : List (Str × V) := [("at", .int i), ("many", .int 1), ("deep", .int 0), ("name", .str nm)]
theorem wd_1 {i : Int} {nm : Str} : putF ("name" : Str) (.str nm) (trF i 1 0) = wdA i nm := by kernel_rfl
theorem wd_2 {i : Int} {nm : Str} : putF ("bits" : Str) (.int 0) (wdA i nm) = wdF i nm := by kernel_rfl
theorem ok_word (T : Txt K mg) : CallC P w K mg base 2 "Word" (cW K) ["self", "name", "at", "bits"] [.int 0] (spWordI K) := by
  obtain ⟨fd, F⟩ := T.f_Word_init
  obtain ⟨fdT, bT, kT, GT⟩ := ok_tree (P := P) (w := w) (base := base) T
  obtain ⟨ds, hd, hb⟩ := F.binds1 (ps := ["self", "name", "at", "bits"]) 3 0 (by simp) rfl fun Tt kV doc pm an cdv ct us its hu hi => match us, its, hu, hi with | [_, _, _], [_], _, _ => ⟨_, rfl, rfl⟩
  refine ⟨_, fd, ds, T.g_Word, T.k_Word, hb, hd, okN F sc_word (fun vs H Q E h => ?_) fun cdv A outer s H vs Q E hr h => ?_⟩
  · obtain ⟨a, dx, nm, i, rfl, _⟩ := h
    rfl
  obtain ⟨a, dx, nm, i, rfl, ha, q⟩ := h
  refine ⟨_, pss_cons (ps_expr (pcf (pgr T.g_Tree) T.exP.rd T.exP.ga T.exP.fi kT GT bT hr (pa_cons (pv 0) (pa_cons (pv 2) (pa_cons pe_int (pa_cons pe_int pa_nil))))))
    (pss_cons (ps_fld (pv 0) (pv 1) rfl) (pss_one (ps_fld (pv 0) (pv 3) rfl))), ?_⟩
  refine ⟨rfl, _, rfl, _, rfl, a, cW K, dx, i, 1, 0, rfl, T.c_Word, T.n_Word_at, T.n_Word_many, T.n_Word_deep, ha, ?_⟩
  refine ⟨_, rfl, _, rfl, a, _, dx, _, rfl, upd_same, T.c_Word, T.n_Word_name, (by show 3 < 1000; decide), _, rfl, _, rfl, a, _, dx, _, rfl, upd_same, T.c_Word, T.n_Word_bits, (by rw [wd_1]; show 4 < 1000; decide), ?_⟩
  show Q .non _
  rw [upd_upd, upd_upd, wd_1, wd_2]
  exact q
theorem sc_figure : FnScope ["self", "number", "at"] ["self", "number", "at"] (defScope sFigure_init) := ⟨rfl, rfl, rfl, by decide +kernel, rfl, by decide +kernel, by decide +kernel⟩
def spFigI (K : PySem.W.Frag) : Sp := fun vs H Q _ => ∃ (a dx : Addr) (n i : Int), vs = [.ref a, .int n, .int i] ∧ H a = some (.ins (cF K) dx []) ∧ Q .non (upd H a (.ins (cF K) dx (fgF i n)))
theorem fg_1 {i n : Int} : putF ("number" : Str) (.int n) (trF i 1 0) = fgF i n := by kernel_rfl
theorem ok_figure (T : Txt K mg) : CallC P w K mg base 2 "Figure" (cF K) ["self", "number", "at"] [] (spFigI K) := by
  obtain ⟨fd, F⟩ := T.f_Figure_init
  obtain ⟨fdT, bT, kT, GT⟩ := ok_tree (P := P) (w := w) (base := base) T
  refine ⟨_, fd, [], T.g_Figure, T.k_Figure, F.bindsN (ps := ["self", "number", "at"]) (fun _ _ _ _ _ _ us hl => match us, hl with | [_, _, _], _ => rfl), .nil, okN F sc_figure (fun vs H Q E h => ?_) fun cdv A outer s H vs Q E hr h => ?_⟩
  · obtain ⟨a, dx, n, i, rfl, _⟩ := h
    rfl
  obtain ⟨a, dx, n, i, rfl, ha, q⟩ := h
  refine ⟨_, pss_cons (ps_expr (pcf (pgr T.g_Tree) T.exP.rd T.exP.ga T.exP.fi kT GT bT hr (pa_cons (pv 0) (pa_cons (pv 2) (pa_cons pe_int (pa_cons pe_int pa_nil))))))
    (pss_one (ps_fld (pv 0) (pv 1) rfl)), ?_⟩
  refine ⟨rfl, _, rfl, _, rfl, a, cF K, dx, i, 1, 0, rfl, T.c_Figure, T.n_Figure_at, T.n_Figure_many, T.n_Figure_deep, ha, ?_⟩
  refine ⟨_, rfl, _, rfl, a, _, dx, _, rfl, upd_same, T.c_Figure, T.n_Figure_number, (by show 3 < 1000; decide), ?_⟩
  show Q .non _
  rw [upd_upd, fg_1]
  exact q
theorem sc_row : FnScope ["self", "parts", "at", "many", "deep", "part"] ["self", "parts", "at"] (defScope sRow_init) := ⟨rfl, rfl, rfl, by decide +kernel, rfl, by decide +kernel, by decide +kernel⟩
def spRowI (K : PySem.W.Frag) : Sp := fun vs H Q _ => ∃ (a dx l : Addr) (as : List Addr) (i : Int), vs = [.ref a, .ref l, .int i] ∧ H a = some (.ins (cR K) dx []) ∧ H l = some (.lst (as.map V.ref)) ∧ as.length ≤ 1000 ∧ (∀ b ∈ as, Nd K H b) ∧
  ∀ (H' : Hp) (m d : Int) (p : Addr), Fr [a] H H' → H' a = some (.ins (cR K) dx (rwF i m d p)) → H' p = some (.lst (as.map V.ref)) → H p = none → Q .non H'
theorem rw_1 {i m d : Int} {p : Addr} : putF ("parts" : Str) (.ref p) (trF i m d) = rwF i m d p := by kernel_rfl
theorem ok_row (T : Txt K mg) : CallC P w K mg base 2 "Row" (cR K) ["self", "parts", "at"] [] (spRowI K) := by
  obtain ⟨fd, F⟩ := T.f_Row_init
  obtain ⟨fdT, bT, kT, GT⟩ := ok_tree (P := P) (w := w) (base := base) T
  refine ⟨_, fd, [], T.g_Row, T.k_Row, F.bindsN (ps := ["self", "parts", "at"]) (fun _ _ _ _ _ _ us hl => match us, hl with | [_, _, _], _ => rfl), .nil, okN F sc_row (fun vs H Q E h => ?_) fun cdv A outer s H vs Q E hr h => ?_⟩
  · obtain ⟨a, dx, l, as, i, rfl, _⟩ := h
    rfl
  obtain ⟨a, dx, l, as, i, rfl, ha, hl, hlen, hn, q⟩ := h
  refine ⟨_, pss_cons (ps_set (i := 3) sc_row.nd rfl (Or.inl rfl) (pe_op op_add pe_int (pe_callB (cr_sum rfl) (by rfl) T.z_sum (by decide +kernel) (pa_cons
      (pe_lc (own := [("part", 5)]) (g := gName 5) (tt := tYes) (te := tFld K (tVar 5) "many") rfl sc_row.nd (pi_list (pv 1)) (blkOk_by (own := [("part", 5)]) (N := ["self", "parts", "at", "many", "deep", "part"]) (sc := defScope sRow_init) (by decide +kernel)) (fun _ _ _ _ _ => pg_name (i := 5) sc_row.nd rfl (Or.inl rfl)) (fun _ _ _ _ _ => pts_nil) (fun _ _ _ _ _ => pe_fld (pv 5) rfl)) pa_nil))))
    (pss_cons (ps_set (i := 4) sc_row.nd rfl (Or.inl rfl) (pe_op op_add pe_int (pe_callBK (cr_maxD rfl (hu2 hr)) (by rfl) T.z_max (by decide +kernel) (pa_cons
      (pe_lc (own := [("part", 5)]) (g := gName 5) (tt := tYes) (te := tFld K (tVar 5) "deep") rfl sc_row.nd (pi_list (pv 1)) (blkOk_by (own := [("part", 5)]) (N := ["self", "parts", "at", "many", "deep", "part"]) (sc := defScope sRow_init) (by decide +kernel)) (fun _ _ _ _ _ => pg_name (i := 5) sc_row.nd rfl (Or.inl rfl)) (fun _ _ _ _ _ => pts_nil) (fun _ _ _ _ _ => pe_fld (pv 5) rfl)) pa_nil) (pk_cons pe_int pk_nil))))
    (pss_cons (ps_expr (pcf (pgr T.g_Tree) T.exP.rd T.exP.ga T.exP.fi kT GT bT hr (pa_cons (pv 0) (pa_cons (pv 2) (pa_cons (pv 3) (pa_cons (pv 4) pa_nil))))))
    (pss_one (ps_fld (pv 0) (pe_callTy call_list_of (by rfl) T.z_list (by decide +kernel) (pa_cons (pv 1) pa_nil)) rfl)))), ?_⟩
  -- many
  refine ⟨_, rfl, l, rfl, ⟨_, SqL.of hl⟩, fun D hD => ?_⟩
  refine lc_map (fun _ y => ∃ i : Int, y = .int i) (SqL.of hl) (by rw [List.length_map]; exact hlen) hD (fun _ => rfl) ?_ ?_
  · intro j x acc Q' hj k
    rw [List.getElem?_map] at hj
    obtain ⟨b, hb, rfl⟩ := Option.map_eq_some_iff.mp hj
    obtain ⟨C, dxb, fs, m, d, e, c, n1, n2, l1, l2⟩ := ((hn b (List.mem_of_getElem? hb)).mono (Same.put hD (o := .lst acc))).ex
    exact ⟨_, rfl, b, C, dxb, fs, _, rfl, e, c, n1, l1, k _ ⟨m, rfl⟩⟩
  intro ys hyl hy
  obtain ⟨ns, rfl⟩ := ints_of hy
  have s1 : Same H (upd H D (.lst (ns.map V.int))) := Same.put hD
  refine ⟨D, ns, rfl, SqL.of upd_same, _, _, rfl, rfl, ?_⟩
  -- deep
  refine ⟨_, rfl, l, rfl, ⟨_, SqL.of (s1 _ _ hl)⟩, fun D2 hD2 => ?_⟩
  refine lc_map (fun _ y => ∃ i : Int, y = .int i) (SqL.of (s1 _ _ hl)) (by rw [List.length_map]; exact hlen) hD2 (fun _ => rfl) ?_ ?_
  · intro j x acc Q' hj k
    rw [List.getElem?_map] at hj
    obtain ⟨b, hb, rfl⟩ := Option.map_eq_some_iff.mp hj
    obtain ⟨C, dxb, fs, m, d, e, c, n1, n2, l1, l2⟩ := ((hn b (List.mem_of_getElem? hb)).mono (s1.trans (Same.put hD2 (o := .lst acc)))).ex
    exact ⟨_, rfl, b, C, dxb, fs, _, rfl, e, c, n2, l2, k _ ⟨d, rfl⟩⟩
  intro ys2 hyl2 hy2
  obtain ⟨ns2, rfl⟩ := ints_of hy2
  have s2 : Same H (upd (upd H D (.lst (ns.map V.int))) D2 (.lst (ns2.map V.int))) := s1.trans (Same.put hD2)
  refine ⟨D2, ns2, 0, rfl, rfl, SqL.of upd_same, fun m => ⟨_, _, rfl, rfl, ?_⟩⟩
  -- Tree.__init__
  refine ⟨rfl, _, rfl, _, rfl, _, rfl, _, rfl, a, cR K, dx, i, 1 + ns.sum, 1 + m, rfl, T.c_Row, T.n_Row_at, T.n_Row_many, T.n_Row_deep, s2 _ _ ha, ?_⟩
  generalize hH2 : upd (upd H D (.lst (ns.map V.int))) D2 (.lst (ns2.map V.int)) = H2 at s2
  have nla : l ≠ a := ne_of hl ha (by intro z; cases z)
  refine ⟨_, rfl, l, _, rfl, .inl (SqL.of ((upd_ne nla).trans (s2 _ _ hl))), fun p hp => ?_⟩
  have npa : p ≠ a := by
    rintro rfl
    rw [upd_same] at hp
    cases hp
  refine ⟨_, rfl, a, _, dx, _, rfl, (upd_ne npa.symm).trans upd_same, T.c_Row, T.n_Row_parts, (by show 3 < 1000; decide), ?_⟩
  have fr : Fr [a] H2 (upd (upd (upd H2 a (.ins (cR K) dx (trF i (1 + ns.sum) (1 + m)))) p (.lst (as.map V.ref))) a (.ins (cR K) dx (putF ("parts" : Str) (.ref p) (trF i (1 + ns.sum) (1 + m))))) := fun b o e hb => by
    have h1 : b ≠ a := fun z => hb (by rw [z]; simp)
    have h2 : b ≠ p := by
      rintro rfl
      rw [upd_ne h1, e] at hp
      cases hp
    rw [upd_ne h1, upd_ne h2, upd_ne h1]
    exact e
  refine q _ (1 + ns.sum) (1 + m) p ((Fr.of_same s2).trans fr) (by rw [upd_same, rw_1]) (by rw [upd_ne npa, upd_same]) ?_
  rw [upd_ne npa] at hp
  exact s2.free hp
end
end Mh
namespace Mh
open PySem PySem.Spec PyProof.Rows L2 TL
/-! ### written texts as signs -/
theorem l_star : ("*" : Str) = S [42] := by decide +kernel
theorem l_eq : ("=" : Str) = S [61] := by decide +kernel
theorem l_minus : ("-" : Str) = S [45] := by decide +kernel
theorem l_nil : ("" : Str) = S [] := by decide +kernel
theorem l_zero : ("0" : Str) = S [48] := by decide +kernel
theorem l_opn : ("(" : Str) = S [40] := by decide +kernel
theorem l_cls : (")" : Str) = S [41] := by decide +kernel
theorem l_pick : ("pick" : Str) = S wPick := by decide +kernel
theorem l_now : ("now" : Str) = S wNow := by decide +kernel
theorem l_fn : ("fn" : Str) = S [102, 110] := by decide +kernel
theorem l_mac : ("mac" : Str) = S [109, 97, 99] := by decide +kernel
def LET : Cs := [97, 98, 99, 100, 101, 102, 103, 104, 105, 106, 107, 108, 109, 110, 111, 112, 113, 114, 115, 116, 117, 118, 119, 120, 121, 122]
def FIG : Cs := [48, 49, 50, 51, 52, 53, 54, 55, 56, 57]
theorem l_let : ("abcdefghijklmnopqrstuvwxyz" : Str) = S LET := by decide +kernel
theorem l_fig : ("0123456789" : Str) = S FIG := by decide +kernel
theorem mem_let {c : Nat} : c ∈ LET ↔ 97 ≤ c ∧ c ≤ 122 := by
  constructor
  · intro h
    unfold LET at h
    simp only [List.mem_cons, List.not_mem_nil, or_false] at h
    omega
  · rintro ⟨h1, h2⟩
    unfold LET
    simp only [List.mem_cons, List.not_mem_nil, or_false]
    omega
theorem mem_fig {c : Nat} : c ∈ FIG ↔ 48 ≤ c ∧ c ≤ 57 := by
  constructor
  · intro h
    unfold FIG at h
    simp only [List.mem_cons, List.not_mem_nil, or_false] at h
    omega
  · rintro ⟨h1, h2⟩
    unfold FIG
    simp only [List.mem_cons, List.not_mem_nil, or_false]
    omega
theorem S_app (a b : Cs) : S a ++ S b = S (a ++ b) := ext_tl (by rw [tl_append] <;> rfl)
theorem dec_S {a b : Cs} : decide (V.str (S a) = V.str (S b)) = decide (a = b) := by
  by_cases h : a = b
  · rw [h, decide_eq_true rfl, decide_eq_true rfl]
  · rw [decide_eq_false h, decide_eq_false fun e => h (S_inj (V.str.inj e))]
theorem scal_str {a b : Str} : scal (V.str a) (V.str b) = true := rfl
theorem starts_minus (w : Cs) : Txt.startswith (S w) (S [45]) = decide (w.head? = some 45) := by
  have h := at_iff (x := S w) (y := S [45]) (by show ([45] : Cs) ≠ []; simp) 0
  have e2 : pre (tl (S [45])) ((tl (S w)).drop 0) = decide (w.head? = some 45) := by
    show (((S w).cps.toList.drop 0).take 1 == [45]) = _
    rw [List.drop_zero]
    show ((tl (S w)).take 1 == [45]) = _
    rw [tl_S]
    cases w with
    | nil => rfl
    | cons c r =>
      show ([c] == [45]) = decide (some c = some 45)
      by_cases hc : c = 45
      · subst hc; rfl
      · have h1 : ([c] == [45]) = false := beq_eq_false_iff_ne.mpr fun q => hc (by simpa using q)
        have h2 : decide (some c = some 45) = false := decide_eq_false fun q => hc (Option.some.inj q)
        rw [h1, h2]
  rw [e2] at h
  unfold Txt.startswith
  rw [Nat.zero_add]
  have h3 : (StrLaws.At (S w) (S [45]) (S w).length 0) ↔ (decide ((S [45]).length ≤ (S w).length) && Builtin.Str.subAt (S w) (S [45]) 0) = true := by
    rw [Bool.and_eq_true, decide_eq_true_iff]
    constructor
    · rintro ⟨a, b⟩
      exact ⟨by omega, b⟩
    · rintro ⟨a, b⟩
      exact ⟨by omega, b⟩
  rw [h3] at h
  exact Bool.eq_iff_iff.mpr h
section
variable {P : Program} {w : World} {K : PySem.W.Frag} {mg : Str → Option Value} {base : Heap}
/-! ### trees.is_name -/
theorem sc_isname : FnScope ["tree"] ["tree"] (defScope s_is_name) := ⟨rfl, rfl, rfl, by decide +kernel, rfl, by decide +kernel, by decide +kernel⟩
def nmB : Tr → Bool
  | .word w => !decide (w = [42]) && !decide (w = [61])
  | _ => false
def spIsName (K : PySem.W.Frag) : Sp := fun vs H Q _ => ∃ (a : Addr) (t : Tr), vs = [.ref a] ∧ TreeAt K H a t ∧ Q (.bl (nmB t)) H
theorem ok_isname (T : Txt K mg) : CallF P w K mg base 1 "is_name" ["tree"] [] (spIsName K) := by
  obtain ⟨fd, F⟩ := T.f_is_name
  refine ⟨_, fd, [], T.g_is_name, F.kp, F.bindsN (ps := ["tree"]) (fun _ _ _ _ _ _ us hl => match us, hl with | [_], _ => rfl), .nil, okN F sc_isname (fun vs H Q E h => ?_) fun cdv A outer s H vs Q E hr h => ?_⟩
  · obtain ⟨a, t, rfl, _⟩ := h
    rfl
  obtain ⟨a, t, rfl, ht, q⟩ := h
  refine ⟨_, pss_one (ps_ret (pe_and (pe_callB call_isi (by rfl) T.z_isinstance (by decide +kernel) (pa_cons (pv 0) (pa_cons (pgr T.g_Word) pa_nil)))
    (pe_and (pe_cmpR op_ne (pe_fld (pv 0) rfl) pe_str (nomark _)) (pe_one (pe_cmpR op_ne (pe_fld (pv 0) rfl) pe_str (nomark _)))))), ?_⟩
  cases ht with
  | @word _ dx i wd e =>
    refine ⟨_, rfl, _, _, _, _, true, rfl, .own _, ty_word T e, kit_same, true, rfl, ?_⟩
    rw [if_pos rfl]
    refine ⟨_, rfl, a, _, dx, _, _, rfl, e, T.c_Word, T.n_Word_name, wd_name, scal_str, !decide (wd = [42]), ?_, ?_⟩
    · rw [l_star, dec_S]
    · by_cases h1 : wd = [42]
      · have e1 : (!decide (wd = [42])) = false := by rw [decide_eq_true h1] <;> rfl
        rw [e1, if_neg Bool.false_ne_true]
        have e2 : nmB (.word wd) = false := by
          show (!decide (wd = [42]) && !decide (wd = [61])) = false
          rw [e1] <;> rfl
        rw [e2] at q
        exact q
      · have e1 : (!decide (wd = [42])) = true := by rw [decide_eq_false h1] <;> rfl
        rw [e1, if_pos rfl]
        refine ⟨_, rfl, a, _, dx, _, _, rfl, e, T.c_Word, T.n_Word_name, wd_name, scal_str, ?_⟩
        rw [l_eq, dec_S]
        have e2 : nmB (.word wd) = !decide (wd = [61]) := by
          show (!decide (wd = [42]) && !decide (wd = [61])) = _
          rw [e1, Bool.true_and]
        rw [e2] at q
        exact q
  | @fig _ dx i n e =>
    refine ⟨_, rfl, _, _, _, _, false, rfl, .own _, ty_fig T e, T.exP.fw, false, rfl, ?_⟩
    rw [if_neg Bool.false_ne_true]
    exact q
  | row e _ _ _ =>
    refine ⟨_, rfl, _, _, _, _, false, rfl, .own _, ty_row T e, T.exP.rw_, false, rfl, ?_⟩
    rw [if_neg Bool.false_ne_true]
    exact q
/-! ### reader.only -/
theorem sc_only : FnScope ["piece", "some", "sign"] ["piece", "some"] (defScope s_only) := ⟨rfl, rfl, rfl, by decide +kernel, rfl, by decide +kernel, by decide +kernel⟩
def spOnly : Sp := fun vs H Q _ => ∃ (a b : Cs), vs = [.str (S a), .str (S b)] ∧ Q (.bl (a.all fun c => decide (c ∈ b))) H
theorem ok_only (T : Txt K mg) : CallF P w K mg base 1 "only" ["piece", "some"] [] spOnly := by
  obtain ⟨fd, F⟩ := T.f_only
  refine ⟨_, fd, [], T.g_only, F.kp, F.bindsN (ps := ["piece", "some"]) (fun _ _ _ _ _ _ us hl => match us, hl with | [_, _], _ => rfl), .nil, okN F sc_only (fun vs H Q E h => ?_) fun cdv A outer s H vs Q E hr h => ?_⟩
  · obtain ⟨a, b, rfl, _⟩ := h
    rfl
  obtain ⟨a, b, rfl, q⟩ := h
  refine ⟨_, pss_cons (ps_for PassesOwn.never rfl (pi_str (pv 0)) (pg_name (i := 2) sc_only.nd rfl (Or.inl rfl)) (pss_one (ps_if (pt_cmpR op_notIn_sign (pv 2) (pv 1) rfl) (pss_one (ps_ret pe_bl)) pss_nil))) (pss_one (ps_ret pe_bl)), ?_⟩
  refine ⟨_, rfl, S a, rfl, for_it walk_str (fun i σ H' => ∃ v : Option V, σ = [some (.str (S a)), some (.str (S b)), v] ∧ H' = H ∧ (a.take i).all (fun c => decide (c ∈ b)) = true) ⟨_, rfl, rfl, rfl⟩ (fun _ _ _ _ _ => trivial) ?_ ?_⟩
  · rintro i x σ H1 H2 hi ⟨v, rfl, rfl, hall⟩ ⟨rfl, c, hc, rfl⟩
    have hc' : a[i]? = some c := by simpa [S] using hc
    refine ⟨_, rfl, _, rfl, c, S b, rfl, rfl, _, rfl, ?_⟩
    show if (!decide (c ∈ (S b).cps.toList)) = true then _ else _
    have eb : (S b).cps.toList = b := tl_S b
    rw [eb]
    by_cases hm : c ∈ b
    · rw [decide_eq_true hm]
      rw [if_neg (by decide)]
      refine ⟨_, rfl, rfl, ?_⟩
      rw [List.take_succ, hc', List.all_append, hall]
      show ([c].all fun c => decide (c ∈ b)) = true
      simp [hm]
    · rw [decide_eq_false hm]
      rw [if_pos (by decide)]
      have e : (a.all fun c => decide (c ∈ b)) = false := by
        rw [List.all_eq_false]
        exact ⟨c, List.mem_of_getElem? hc', by simp [hm]⟩
      rw [e] at q
      exact q
  · rintro σ H1 ⟨v, rfl, rfl, hall⟩
    have el : a.take (S a).cps.size = a := List.take_of_length_le (by show a.length ≤ a.toArray.size; simp)
    rw [el] at hall
    rw [hall] at q
    exact q
/-! ### reader.is_word -/
theorem sc_isword : FnScope ["piece"] ["piece"] (defScope s_is_word) := ⟨rfl, rfl, rfl, by decide +kernel, rfl, by decide +kernel, by decide +kernel⟩
def spIsWord : Sp := fun vs H Q _ => ∃ (a : Cs) (b : Bool), vs = [.str (S a)] ∧ a.length ≤ 1000 ∧ ((WdOk a ∧ b = true) ∨ ((∃ n, NumOk a n) ∧ b = false)) ∧ Q (.bl b) H
theorem ok_isword (T : Txt K mg) : CallF P w K mg base 2 "is_word" ["piece"] [] spIsWord := by
  obtain ⟨fd, F⟩ := T.f_is_word
  refine ⟨_, fd, [], T.g_is_word, F.kp, F.bindsN (ps := ["piece"]) (fun _ _ _ _ _ _ us hl => match us, hl with | [_], _ => rfl), .nil, okN F sc_isword (fun vs H Q E h => ?_) fun cdv A outer s H vs Q E hr h => ?_⟩
  · obtain ⟨a, b, rfl, _⟩ := h
    rfl
  obtain ⟨a, b, rfl, hl, hab, q⟩ := h
  refine ⟨_, pss_cons (ps_if (PW.pt (pw_or (pt_cmpR op_eq (pv 0) pe_str (nomark _)) (pw_or1 (pt_cmpR op_eq (pv 0) pe_str (nomark _))))) (pss_one (ps_ret pe_bl)) pss_nil)
    (pss_one (ps_ret (pe_and (pe_cmpR op_in_sign (pe_ix ix_str (pv 0) pe_int (fun _ _ => rfl)) (pgs T.s_LETTERS) rfl) (pe_one (pf (ok_only T) hr (by rfl) (pa_cons (pv 0) (pa_cons (pe_op op_add_str (pgs T.s_LETTERS) (pgs T.s_FIGURES)) pa_nil))))))), ?_⟩
  -- the first sign
  obtain ⟨c, r, ea, hne1, hne2⟩ : ∃ c r, a = c :: r ∧ a ≠ [42] ∧ a ≠ [61] := by
    rcases hab with ⟨hw, _⟩ | ⟨⟨n, hn⟩, _⟩
    · obtain ⟨c, r, e, h1, h2⟩ := hw.ne
      exact ⟨c, r, e, by rw [e]; intro z; injection z with z; omega, by rw [e]; intro z; injection z with z; omega⟩
    · obtain ⟨f, hf, _, hd, h⟩ := hn
      obtain ⟨d, r, ed⟩ := List.exists_cons_of_ne_nil hf
      have hdd := hd d (by rw [ed]; simp)
      rcases h with ⟨e, _⟩ | ⟨e, _⟩
      · rw [e, ed]
        exact ⟨d, r, rfl, by intro z; injection z with z; omega, by intro z; injection z with z; omega⟩
      · rw [e]
        exact ⟨45, f, rfl, by intro z; injection z with z; omega, by intro z; injection z with z; omega⟩
  refine ⟨_, rfl, scal_str, _, rfl, ?_⟩
  refine ifF (by rw [l_star, dec_S]; exact decide_eq_false hne1) ?_
  refine ⟨_, rfl, scal_str, _, rfl, ?_⟩
  refine ifF (by rw [l_eq, dec_S]; exact decide_eq_false hne2) ?_
  refine ⟨_, rfl, S a, 0, c, rfl, rfl, by rw [S_len]; exact sl1000' hl, atI_nat (j := 0) (by rw [show (S a).cps.toList = a from tl_S a, ea] <;> rfl), c, S LET, rfl, by rw [l_let], _, rfl, ?_⟩
  have eb : (S LET).cps.toList = LET := tl_S LET
  rcases hab with ⟨hw, rfl⟩ | ⟨⟨n, hn⟩, rfl⟩
  · obtain ⟨c', r', e', h1, h2⟩ := hw.ne
    rw [ea] at e'
    injection e' with e1 e2
    subst e1
    refine ifT (by rw [eb]; exact decide_eq_true (mem_let.mpr ⟨h1, h2⟩)) ?_
    refine ⟨_, rfl, _, _, rfl, rfl, (by decide +kernel), a, LET ++ FIG, ?_, ?_⟩
    · rw [l_let, l_fig, S_app] <;> rfl
    · have e : (a.all fun c => decide (c ∈ LET ++ FIG)) = true := by
        rw [List.all_eq_true]
        intro d hd
        rw [decide_eq_true_iff, List.mem_append, mem_let, mem_fig]
        exact hw.all d hd
      rw [e]
      exact q
  · have hc : ¬ c ∈ LET := by
      rw [mem_let]
      obtain ⟨f, hf, _, hd, h⟩ := hn
      obtain ⟨d, r', ed⟩ := List.exists_cons_of_ne_nil hf
      have hdd := hd d (by rw [ed]; simp)
      rcases h with ⟨e, _⟩ | ⟨e, _⟩
      · rw [e, ed] at ea
        injection ea with e1 e2
        omega
      · rw [e] at ea
        injection ea with e1 e2
        omega
    exact ifF (by rw [eb]; exact decide_eq_false hc) q
end
end Mh
namespace Mh
open PySem PySem.Spec PyProof.Rows L2 TL
theorem cut_from1 (c : Nat) (r : Cs) : cutS (S (c :: r)) (some 1) none = S r := by
  refine ext_tl ?_
  show (((S (c :: r)).cps.toList.drop (HT.sIx (S (c :: r)).length 0 (some 1))).take (HT.sIx (S (c :: r)).length (S (c :: r)).length none - HT.sIx (S (c :: r)).length 0 (some 1))) = r
  have h1 : HT.sIx (S (c :: r)).length 0 (some 1) = 1 := by
    have := HT.sIx_nat (S (c :: r)).length 0 1
    rw [S_len] at this ⊢
    have e : min 1 (c :: r).length = 1 := by simp
    rw [e] at this
    exact this
  rw [h1, HT.sIx_none, S_len, show (S (c :: r)).cps.toList = c :: r from tl_S _]
  simp
section
variable {P : Program} {w : World} {K : PySem.W.Frag} {mg : Str → Option Value} {base : Heap}
/-! ### reader.is_number -/
theorem sc_isnumber : FnScope ["piece", "figures"] ["piece"] (defScope s_is_number) := ⟨rfl, rfl, rfl, by decide +kernel, rfl, by decide +kernel, by decide +kernel⟩
def spIsNumber : Sp := fun vs H Q _ => ∃ (a : Cs) (n : Int), vs = [.str (S a)] ∧ NumOk a n ∧ Q (.bl true) H
theorem ok_isnumber (T : Txt K mg) : CallF P w K mg base 2 "is_number" ["piece"] [] spIsNumber := by
  obtain ⟨fd, F⟩ := T.f_is_number
  refine ⟨_, fd, [], T.g_is_number, F.kp, F.bindsN (ps := ["piece"]) (fun _ _ _ _ _ _ us hl => match us, hl with | [_], _ => rfl), .nil, okN F sc_isnumber (fun vs H Q E h => ?_) fun cdv A outer s H vs Q E hr h => ?_⟩
  · obtain ⟨a, b, rfl, _⟩ := h
    rfl
  obtain ⟨a, n, rfl, hn, q⟩ := h
  refine ⟨_, pss_cons (ps_set (i := 1) sc_isnumber.nd rfl (Or.inl rfl) (pv 0))
    (pss_cons (ps_if (pt_val (pe_m1 PySem.F.slot_str_startswith PySem.F.type_str_startswith mt_startswith (pv 0) pe_str)) (pss_one (ps_set (i := 1) sc_isnumber.nd rfl (Or.inl rfl) (pe_slice sl_str (pv 0) (po_some pe_int) po_none))) pss_nil)
    (pss_cons (ps_if (PW.pt (pw_or (pt_cmpR op_eq (pv 1) pe_str (nomark _)) (pw_or (pt_cmpR op_gt (pe_callB call_len_str (by rfl) T.z_len PySem.boot_len (pa_cons (pv 1) pa_nil)) (pgi T.i_LONGEST) (nomark _))
      (pw_or1 (pt_not (pt_val (pf (ok_only T) hr (by rfl) (pa_cons (pv 1) (pa_cons (pgs T.s_FIGURES) pa_nil))))))))) (pss_one (ps_ret pe_bl)) pss_nil)
    (pss_one (ps_ret (pe_or (pe_cmpR op_ne (pe_ix ix_str (pv 1) pe_int (fun _ _ => rfl)) pe_str (nomark _)) (pe_one (pe_cmpR op_eq (pv 0) pe_str (nomark _)))))))), ?_⟩
  obtain ⟨f, hf, hfl, hfd, hcase⟩ := hn
  obtain ⟨d, r, ef⟩ := List.exists_cons_of_ne_nil hf
  have hall : (f.all fun c => decide (c ∈ FIG)) = true := by
    rw [List.all_eq_true]
    intro c hc
    rw [decide_eq_true_iff, mem_fig]
    exact hfd c hc
  have hlen60 : ¬ (60 : Int) < ((S f).length : Nat) := by rw [S_len]; omega
  have hd := hfd d (by rw [ef]; simp)
  refine ⟨_, rfl, ?_⟩
  rcases hcase with ⟨rfl, h0⟩ | ⟨rfl, h0⟩
  · have hns : Txt.startswith (S a) ("-" : Str) = false := by
      rw [l_minus, starts_minus, ef]
      exact decide_eq_false fun z => by have := Option.some.inj z; omega
    refine ⟨_, rfl, ⟨_, rfl⟩, S a, _, rfl, rfl, _, rfl, ?_⟩
    refine ifF hns ?_
    refine ⟨_, rfl, scal_str, _, rfl, ?_⟩
    refine ifF (by rw [l_nil, dec_S]; exact decide_eq_false hf) ?_
    refine ⟨_, rfl, S a, rfl, by rw [S_len]; exact sl1000' (by omega), _, _, rfl, rfl, _, rfl, ?_⟩
    refine ifF (decide_eq_false hlen60) ?_
    refine ⟨_, rfl, a, FIG, by rw [l_fig] <;> rfl, _, rfl, ?_⟩
    refine ifF (by rw [hall] <;> rfl) ?_
    refine ⟨_, rfl, S a, 0, d, rfl, rfl, by rw [S_len]; exact sl1000' (by omega), atI_nat (j := 0) (by rw [show (S a).cps.toList = a from tl_S a, ef] <;> rfl), scal_str, _, rfl, ?_⟩
    by_cases hd0 : d = 48
    · refine ifF (by rw [l_zero, show (⟨#[d]⟩ : Str) = S [d] from rfl, dec_S, hd0] <;> rfl) ?_
      refine ⟨_, rfl, scal_str, ?_⟩
      have e : a = [48] := h0 (by rw [ef, hd0] <;> rfl)
      have e2 : decide (V.str (S a) = V.str ("0" : Str)) = true := by rw [l_zero, dec_S]; exact decide_eq_true e
      show Q (.bl (decide (V.str (S a) = V.str ("0" : Str)))) H
      rw [e2]
      exact q
    · refine ifT (by rw [l_zero, show (⟨#[d]⟩ : Str) = S [d] from rfl, dec_S, decide_eq_false (fun z => hd0 (by simpa using z))] <;> rfl) ?_
      exact q
  · have hns : Txt.startswith (S (45 :: f)) ("-" : Str) = true := by
      rw [l_minus, starts_minus]
      exact decide_eq_true rfl
    refine ⟨_, rfl, ⟨_, rfl⟩, S (45 :: f), _, rfl, rfl, _, rfl, ?_⟩
    refine ifT hns ?_
    refine ⟨_, rfl, 1, rfl, S (45 :: f), rfl, by rw [S_len, List.length_cons]; exact sl1000' (by omega), ?_⟩
    rw [cut_from1]
    refine ⟨_, rfl, scal_str, _, rfl, ?_⟩
    refine ifF (by rw [l_nil, dec_S]; exact decide_eq_false hf) ?_
    refine ⟨_, rfl, S f, rfl, by rw [S_len]; exact sl1000' (by omega), _, _, rfl, rfl, _, rfl, ?_⟩
    refine ifF (decide_eq_false hlen60) ?_
    refine ⟨_, rfl, f, FIG, by rw [l_fig] <;> rfl, _, rfl, ?_⟩
    refine ifF (by rw [hall] <;> rfl) ?_
    refine ⟨_, rfl, S f, 0, d, rfl, rfl, by rw [S_len]; exact sl1000' (by omega), atI_nat (j := 0) (by rw [show (S f).cps.toList = f from tl_S f, ef] <;> rfl), scal_str, _, rfl, ?_⟩
    have hd0 : d ≠ 48 := fun z => h0 (by rw [ef, z] <;> rfl)
    refine ifT (by rw [l_zero, show (⟨#[d]⟩ : Str) = S [d] from rfl, dec_S, decide_eq_false (fun z => hd0 (by simpa using z))] <;> rfl) ?_
    exact q
/-! ### reader.leaf -/
theorem sc_leaf : FnScope ["piece", "at"] ["piece", "at"] (defScope s_leaf) := ⟨rfl, rfl, rfl, by decide +kernel, rfl, by decide +kernel, by decide +kernel⟩
/-- a sign that is no bracket -/
def LeafOk : Tk → Prop
  | .wd w => WdOk w
  | .nm n => -big < n ∧ n < big
  | _ => False
def leafTr : Tk → Tr
  | .wd w => .word w
  | .nm n => .fig n
  | _ => .row []
/-- the leaf of a sign, new at a -/
def NewLeaf (K : PySem.W.Frag) (H' : Hp) (a : Addr) : Tk → Prop
  | .wd w => ∃ (dx : Addr) (i : Int), H' a = some (.ins (cW K) dx (wdF i (S w)))
  | .nm n => ∃ (dx : Addr) (i : Int), H' a = some (.ins (cF K) dx (fgF i n))
  | _ => False
def spLeaf (K : PySem.W.Frag) : Sp := fun vs H Q _ => ∃ (k : Tk) (i : Int), vs = [.str (S k.cs), .int i] ∧ LeafOk k ∧ ∀ (H' : Hp) (a : Addr), Same H H' → H a = none → NewLeaf K H' a k → Q (.ref a) H'
theorem int_back {n : Int} (h1 : -big < n) (h2 : n < big) : intText? (S (numC n)) = some n := by
  have hl := numC_len h1 h2
  have e : S (numC n) = Str.ofString (toString n) := S_tl _
  rcases int_cases n with ⟨k, rfl⟩ | ⟨k, rfl⟩
  · rw [e]
    refine int_num ?_
    rw [← numC_nat]
    omega
  · have h := intText_neg (x := S (numC (-((k + 1 : Nat) : Int)))) (cs := numL (k + 1)) (by rw [show (S (numC (-((k + 1 : Nat) : Int)))).cps.toList = numC (-((k + 1 : Nat) : Int)) from tl_S _, numC_neg]) (numL_digits _) (numL_ne _) (by rw [S_len]; omega)
    rw [h, numL_val]
theorem ok_leaf (T : Txt K mg) : CallF P w K mg base 4 "leaf" ["piece", "at"] [] (spLeaf K) := by
  obtain ⟨fd, F⟩ := T.f_leaf
  refine ⟨_, fd, [], T.g_leaf, F.kp, F.bindsN (ps := ["piece", "at"]) (fun _ _ _ _ _ _ us hl => match us, hl with | [_, _], _ => rfl), .nil, okN F sc_leaf (fun vs H Q E h => ?_) fun cdv A outer s H vs Q E hr h => ?_⟩
  · obtain ⟨k, i, rfl, _⟩ := h
    rfl
  obtain ⟨k, i, rfl, hk, q⟩ := h
  refine ⟨_, pss_cons (ps_if (pt_val (pf (ok_isword T) (hr.mono (by decide)) (by rfl) (pa_cons (pv 0) pa_nil))) (pss_one (ps_ret (pc (ok_word T) hr (by rfl) (pa_cons (pv 0) (pa_cons (pv 1) pa_nil))))) pss_nil)
    (pss_one (ps_ret (pc (ok_figure T) hr (by rfl) (pa_cons (pe_callTy call_int_str (by rfl) T.z_int (by decide +kernel) (pa_cons (pv 0) pa_nil)) (pa_cons (pv 1) pa_nil))))), ?_⟩
  cases k with
  | opn => exact hk.elim
  | cls => exact hk.elim
  | wd wd =>
    refine ⟨_, rfl, wd, true, rfl, Nat.le_trans hk.len (by decide), .inl ⟨hk, rfl⟩, _, rfl, ?_⟩
    refine ifT rfl ?_
    refine ⟨_, rfl, _, rfl, fun x dx nx ndx nex => ?_⟩
    refine ⟨x, dx, S wd, i, rfl, upd_same, rfl, ?_⟩
    rw [upd_upd]
    exact q _ x (Same.put2 nx ndx) nx ⟨dx, i, upd_same⟩
  | nm n =>
    have hn : NumOk (numC n) n := numOk_of hk.1 hk.2
    refine ⟨_, rfl, numC n, false, rfl, by have := numC_len hk.1 hk.2; omega, .inr ⟨⟨n, hn⟩, rfl⟩, _, rfl, ?_⟩
    refine ifF rfl ?_
    refine ⟨_, rfl, S (numC n), n, rfl, int_back hk.1 hk.2, by rw [S_len]; have := numC_len hk.1 hk.2; omega, _, rfl, fun x dx nx ndx nex => ?_⟩
    refine ⟨x, dx, n, i, rfl, upd_same, rfl, ?_⟩
    rw [upd_upd]
    exact q _ x (Same.put2 nx ndx) nx ⟨dx, i, upd_same⟩
end
end Mh
namespace Mh
open PySem PySem.Spec PyProof.Rows L2 TL
/-! ### replacing signs -/
theorem replL_one (c : Nat) (z l : Cs) : StrLaws.replL [c] z l = l.flatMap fun d => if d = c then z else [d] := by
  induction l with
  | nil => exact StrLaws.replL_nil
  | cons d r ih =>
    rw [List.flatMap_cons, ← ih]
    by_cases h : d = c
    · subst h
      rw [if_pos rfl, StrLaws.replL_hit (by simp) rfl]
      rfl
    · rw [if_neg h, StrLaws.replL_miss (by intro q; exact h (by simpa using q))]
      rfl
theorem spaced_repl (l : Cs) : StrLaws.replL [10] [32] (StrLaws.replL [41] [32, 41, 32] (StrLaws.replL [40] [32, 40, 32] l)) = spaced l := by
  rw [replL_one, replL_one, replL_one, List.flatMap_assoc, List.flatMap_assoc]
  unfold spaced
  congr 1
  funext c
  unfold spC
  by_cases h1 : c = 40
  · subst h1; rfl
  · rw [if_neg h1]
    by_cases h2 : c = 41
    · subst h2; rfl
    · by_cases h3 : c = 10
      · subst h3; rfl
      · simp [h1, h2, h3]
theorem repl_S {x y z : Cs} (hy : 1 ≤ y.length) : Txt.replace (S x) (S y) (S z) = S (StrLaws.replL y z x) := by
  refine ext_tl ?_
  have h := StrLaws.replace_list (x := S x) (y := S y) (z := S z) (by rw [S_len]; exact hy)
  exact h
theorem slz {n : Nat} (h : n ≤ 16777216) : n ≤ sizeLine := by rw [sizeLine_eq]; exact h
theorem slt {n : Nat} (h : n < 16777216) : n < sizeLine := by rw [sizeLine_eq]; exact h
theorem l_sp : (" " : Str) = S [32] := by decide +kernel
theorem l_opnsp : (" ( " : Str) = S [32, 40, 32] := by decide +kernel
theorem l_clssp : (" ) " : Str) = S [32, 41, 32] := by decide +kernel
theorem l_nl : ("\n" : Str) = S [10] := by decide +kernel
theorem split_sp (x : Cs) : Txt.split (S x) (S [32]) = (spl [32] 0 [] x).map S := by
  refine map_tl_inj ?_
  rw [split_spl (S x) (S [32]) (by show ([32] : Cs) ≠ []; simp) (kind_ok (by decide +kernel)), List.map_map]
  have e : (tl ∘ S) = (id : Cs → Cs) := rfl
  rw [e, List.map_id] <;> rfl
section
variable {X : Cx} {rest : List Stmt} {t u : TS}
theorem PSsTnox {st : List Stmt} {t : TS} (h : PSsT X.nox st t) : PSsT X st t := fun pins s σ H D h0 I hw =>
  wpAny_mono (h pins s σ H D h0 (I.wish _) hw) (fun _ _ q => q.unwish) fun _ _ z => False.elim z
theorem pst_set {i : Nat} {x : Str} {e : Expr} {te : TE} {pos' pos : Pos} (hN : X.N.Nodup) (hi : X.N[i]? = some x) (hx : Loc X.env.scope x) (he : PET X e te) (hs : swapsWith e (some (.Name x pos')) pos.line X.env = pure false := by rfl)
    (hf : X.fn x = true ∨ X.env.scope.names.lookup x = some .local := by first | exact .inl rfl | exact .inr rfl | assumption) : PST X (.Assign [.Name x pos'] e pos) (tAsg te (gName i)) := by
  intro pins s σ H D h0 I h
  refine wpAny_Assign_Name (thn (he pins s σ H _ h0 I h) fun v s1 ⟨y, H1, I1, r1, q1⟩ => ?_) hs
  exact store_ok I1 hN hi hx r1 (fun s2 I2 => ⟨_, H1, I2, q1⟩) hf
end
/-- a sign of a tree's -/
def TkOk : Tk → Prop
  | .opn => True
  | .cls => True
  | k => LeafOk k
def tkV (k : Tk) : V := .str (S k.cs)
section
variable {P : Program} {w : World} {K : PySem.W.Frag} {mg : Str → Option Value} {base : Heap}
/-! ### reader.signs_of -/
theorem sc_signs : FnScope ["text", "spaced", "signs", "piece"] ["text"] (defScope s_signs_of) := ⟨rfl, rfl, rfl, by decide +kernel, rfl, by decide +kernel, by decide +kernel⟩
def spSigns : Sp := fun vs H Q _ => ∃ (z : Cs) (ks : List Tk), vs = [.str (S z)] ∧ z.length ≤ 30000 ∧ words (spaced z) = ks.map Tk.cs ∧ (∀ k ∈ ks, TkOk k) ∧
  ∀ (H' : Hp) (p : Addr), Same H H' → H p = none → H' p = some (.lst (ks.map tkV)) → Q (.ref p) H'
theorem repl_len {x y z : Cs} (hy : 1 ≤ y.length) : (StrLaws.replL y z x).length ≤ x.length + (x.length + 1) * z.length := by
  have h := TK.replace_len (S x) (S y) (S z)
  rw [repl_S hy, S_len, S_len, S_len] at h
  exact h
theorem ok_signs (T : Txt K mg) : CallF P w K mg base 3 "signs_of" ["text"] [] spSigns := by
  obtain ⟨fd, F⟩ := T.f_signs_of
  refine ⟨_, fd, [], T.g_signs_of, F.kp, F.bindsN (ps := ["text"]) (fun _ _ _ _ _ _ us hl => match us, hl with | [_], _ => rfl), .nil, ?_⟩
  obtain ⟨oc, od, dV, kV, doc, pm, an, cdv, ct, osl, rfl, lk, hcd, _, _⟩ := F.ex
  refine fn_ofT lk hcd sc_signs (by decide +kernel) (by decide) (fun vs H Q E h => ?_) fun A outer s H vs Q E hr h => ?_
  · obtain ⟨z, ks, rfl, _⟩ := h
    rfl
  obtain ⟨z, ks, rfl, hz, hw, hk, q⟩ := h
  refine ⟨_, PSsTnox (psst_cons (pst_set (i := 1) sc_signs.nd rfl (Or.inl rfl) (CwR.pet_replT (CwR.pet_replT (CwR.pet_replC (pv 0) (by decide +kernel)) (by decide +kernel)) (by decide +kernel)))
    (PSsT.of (pss_cons (ps_setLc (i := 2) (own := [("piece", 3)]) (g := gName 3) (tt := tTest (tOp rNe (tVar 3) (tC (.str "")))) (te := tVar 3) rfl sc_signs.nd rfl rfl (sw_true rfl rfl rfl (by decide +kernel)) (pi_list (pe_split (pv 1) pe_str))
      (blkOk_by (own := [("piece", 3)]) (N := ["text", "spaced", "signs", "piece"]) (sc := defScope s_signs_of) (by decide +kernel)) (fun _ _ _ _ _ => pg_name (i := 3) sc_signs.nd rfl (Or.inl rfl)) (fun _ _ _ _ _ => pts_one (pt_cmpR op_ne (pv 3) pe_str (nomark _))) (fun _ _ _ _ _ => pv 3))
    (pss_cons (ps_for PassesOwn.never rfl (pi_list (pv 2)) (pg_name (i := 3) sc_signs.nd rfl (Or.inl rfl))
      (pss_one (ps_if (PW.pt (pw_and (pt_cmpR op_ne (pv 3) pe_str (nomark _)) (pw_and (pt_cmpR op_ne (pv 3) pe_str (nomark _)) (pw_and (pt_not (pt_val (pf (ok_isword T) hr (by rfl) (pa_cons (pv 3) pa_nil))))
        (pw_and1 (pt_not (pt_val (pf (ok_isnumber T) hr (by rfl) (pa_cons (pv 3) pa_nil))))))))) (pss_one ps_never) pss_nil)))
    (pss_one (ps_ret (pv 2))))))), ?_⟩
  -- the text between blanks
  have l1 := repl_len (x := z) (y := [40]) (z := [32, 40, 32]) (by decide)
  have l2 := repl_len (x := StrLaws.replL [40] [32, 40, 32] z) (y := [41]) (z := [32, 41, 32]) (by decide)
  have l3 := repl_len (x := StrLaws.replL [41] [32, 41, 32] (StrLaws.replL [40] [32, 40, 32] z)) (y := [10]) (z := [32]) (by decide)
  simp only [List.length_cons, List.length_nil] at l1 l2 l3
  refine ⟨_, rfl, S z, rfl, by rw [l_opnsp, S_len, S_len]; simp only [List.length_cons, List.length_nil]; omega, _, rfl, ?_⟩
  rw [l_opn, l_opnsp, repl_S (by decide)]
  refine ⟨by rw [l_clssp, S_len, S_len]; simp only [List.length_cons, List.length_nil]; omega, _, rfl, ?_⟩
  rw [l_cls, l_clssp, repl_S (by decide)]
  refine ⟨by rw [l_sp, S_len, S_len]; simp only [List.length_cons, List.length_nil]; omega, ?_⟩
  rw [l_nl, l_sp, repl_S (by decide), spaced_repl]
  rw [spaced_repl] at l3
  -- cut
  refine ⟨_, rfl, ⟨_, rfl⟩, S (spaced z), _, rfl, rfl, by decide +kernel, by rw [S_len]; exact slz (by omega), fun p0 hp0 => ?_⟩
  rw [split_sp]
  generalize hparts : spl [32] 0 [] (spaced z) = parts
  have hpl : parts.length ≤ 16777000 := by
    have := PyProof.Rows.split_le (S (spaced z)) (S [32])
    rw [split_sp, hparts, List.length_map, S_len] at this
    omega
  have hwp : parts.filter (· ≠ []) = ks.map Tk.cs := by
    rw [← hparts]
    exact hw
  have s0 : Same H (upd H p0 (.lst ((parts.map S).map V.str))) := Same.put hp0
  generalize hH0 : upd H p0 (.lst ((parts.map S).map V.str)) = H0 at s0
  have hp : H0 p0 = some (.lst ((parts.map S).map V.str)) := by rw [← hH0]; exact upd_same
  refine ⟨p0, rfl, ⟨_, SqL.of hp⟩, fun D hD => ?_⟩
  refine lc_list (K := K) (a := p0) (xs := (parts.map S).map V.str) (fun i H' => H' = upd H0 D (.lst (((parts.take i).filter (· ≠ [])).map fun c => V.str (S c)))) rfl ?_ ?_ ?_
  · rintro i H' _ rfl
    exact (Same.put hD).seq (SqL.of hp)
  · rintro i x H' hi rfl
    rw [List.map_map, List.getElem?_map] at hi
    obtain ⟨c, hc, rfl⟩ := Option.map_eq_some_iff.mp hi
    have hil : i < parts.length := (List.getElem?_eq_some_iff.mp hc).1
    have et : parts.take (i + 1) = parts.take i ++ [c] := by rw [List.take_succ, hc] <;> rfl
    refine ⟨rfl, _, rfl, scal_str, _, rfl, ?_⟩
    have ed : (!decide (V.str (S c) = V.str ("" : Str))) = !decide (c = []) := by rw [l_nil, dec_S]
    by_cases h0 : c = []
    · refine ifF (ed.trans (by rw [decide_eq_true h0] <;> rfl)) ?_
      show upd H0 D _ = upd H0 D _
      rw [et, List.filter_append]
      simp [h0]
    · refine ifT (ed.trans (by rw [decide_eq_false h0] <;> rfl)) ?_
      refine ⟨_, rfl, _, upd_same, ?_, ?_⟩
      · rw [List.length_map]
        have h1 := List.length_filter_le (· ≠ ([] : Cs)) (parts.take i)
        have h2 := List.length_take_le i parts
        exact slt (by simp only [ne_eq] at h1 ⊢; omega)
      · rw [upd_upd, et, List.filter_append, List.map_append]
        simp [h0]
  rintro H' rfl
  have el : parts.take ((parts.map S).map V.str).length = parts := List.take_of_length_le (by rw [List.length_map, List.length_map]; exact Nat.le_refl _)
  rw [el, hwp, List.map_map]
  show gName 2 _ _ _ _
  have s1 : Same H (upd H0 D (.lst (ks.map tkV))) := s0.trans (Same.put hD)
  refine ⟨_, rfl, D, rfl, ⟨_, SqL.of (show upd H0 D _ D = some (.lst (ks.map tkV)) from upd_same)⟩, for_list (K := K) (a := D) (xs := ks.map tkV) (fun i σ H' => ∃ v : Option V, σ = [some (.str (S z)), some (.str (S (spaced z))), some (.ref D), v] ∧ H' = upd H0 D (.lst (ks.map tkV))) ⟨_, rfl, rfl⟩ ?_ ?_ ?_⟩
  · rintro i σ H' _ ⟨v, rfl, rfl⟩
    exact SqL.of upd_same
  · rintro i x σ H' hi ⟨v, rfl, rfl⟩
    rw [List.getElem?_map] at hi
    obtain ⟨k, hki, rfl⟩ := Option.map_eq_some_iff.mp hi
    have hko := hk k (List.mem_of_getElem? hki)
    have fin : ∀ (σ' : L2.St) (H'' : Hp), σ' = [some (.str (S z)), some (.str (S (spaced z))), some (.ref D), some (tkV k)] → H'' = upd H0 D (.lst (ks.map tkV)) →
        ∃ v : Option V, σ' = [some (.str (S z)), some (.str (S (spaced z))), some (.ref D), v] ∧ H'' = upd H0 D (.lst (ks.map tkV)) := fun σ' H'' h1 h2 => ⟨_, h1, h2⟩
    refine ⟨_, rfl, scal_str, _, rfl, ?_⟩
    cases k with
    | opn =>
      refine ifF (by show (!decide (V.str (S [40]) = V.str (S [40]))) = false; rw [decide_eq_true rfl] <;> rfl) ?_
      refine ifF rfl ?_
      exact fin _ _ rfl rfl
    | cls =>
      refine ifT (by show (!decide (V.str (S [41]) = V.str (S [40]))) = true; rw [dec_S] <;> rfl) ?_
      refine ⟨_, rfl, scal_str, _, rfl, ?_⟩
      refine ifF (by show (!decide (V.str (S [41]) = V.str (S [41]))) = false; rw [decide_eq_true rfl] <;> rfl) ?_
      refine ifF rfl ?_
      exact fin _ _ rfl rfl
    | wd wd =>
      have hwd : WdOk wd := hko
      obtain ⟨c, r, e, h1, h2⟩ := hwd.ne
      have n1 : wd ≠ [40] := by rw [e]; intro q; injection q with q; omega
      have n2 : wd ≠ [41] := by rw [e]; intro q; injection q with q; omega
      refine ifT (by show (!decide (V.str (S wd) = V.str (S [40]))) = true; rw [dec_S, decide_eq_false n1] <;> rfl) ?_
      refine ⟨_, rfl, scal_str, _, rfl, ?_⟩
      refine ifT (by show (!decide (V.str (S wd) = V.str (S [41]))) = true; rw [dec_S, decide_eq_false n2] <;> rfl) ?_
      refine ⟨_, rfl, wd, true, rfl, Nat.le_trans hwd.len (by decide), .inl ⟨hwd, rfl⟩, _, rfl, ?_⟩
      refine ifF rfl ?_
      refine ifF rfl ?_
      exact fin _ _ rfl rfl
    | nm n =>
      have hn : -big < n ∧ n < big := hko
      have hno := numOk_of hn.1 hn.2
      have hnl := numC_len hn.1 hn.2
      have n1 : numC n ≠ [40] := fun q => by
        have := numC_chars (n := n) 40 (by rw [q]; simp)
        omega
      have n2 : numC n ≠ [41] := fun q => by
        have := numC_chars (n := n) 41 (by rw [q]; simp)
        omega
      refine ifT (by show (!decide (V.str (S (numC n)) = V.str (S [40]))) = true; rw [dec_S, decide_eq_false n1] <;> rfl) ?_
      refine ⟨_, rfl, scal_str, _, rfl, ?_⟩
      refine ifT (by show (!decide (V.str (S (numC n)) = V.str (S [41]))) = true; rw [dec_S, decide_eq_false n2] <;> rfl) ?_
      refine ⟨_, rfl, numC n, false, rfl, by omega, .inr ⟨⟨n, hno⟩, rfl⟩, _, rfl, ?_⟩
      refine ifT rfl ?_
      refine ⟨_, rfl, numC n, n, rfl, hno, _, rfl, ?_⟩
      refine ifF rfl ?_
      exact fin _ _ rfl rfl
  · rintro σ H' ⟨v, rfl, rfl⟩
    exact ⟨_, rfl, q _ D s1 (s0.free hD) upd_same⟩
end
end Mh
namespace Mh
open PySem PySem.Spec PyProof.Rows L2 TL
/-! ### the reader's stack in the heap -/
/-- Hs: the heap ahead of the loop; R, B: rows, begins; l0: the first list; H0: the heap at the call -/
structure RdInv (K : PySem.W.Frag) (H0 Hs : Hp) (R B l0 : Addr) (n : Nat) (st : Stk) (ls : List Addr) (bs : List Int) (H : Hp) : Prop where
  fr : Fr [R, B, l0] Hs H
  hR : H R = some (.lst (ls.map V.ref))
  hB : H B = some (.lst (bs.map V.int))
  ll : ls.length = st.length
  lb : bs.length + 1 = st.length
  nd : ls.Nodup
  nR : R ∉ ls
  nB : B ∉ ls
  RB : R ≠ B
  sR : Hs R ≠ none
  sB : Hs B ≠ none
  s0 : Hs l0 ≠ none
  l0_ : H l0 ≠ none
  new : ∀ l ∈ ls, H0 l = none
  lsh : ∀ l ∈ ls, Hs l = none ∨ l = l0
  at_ : ∀ (j : Nat) l ts, ls[j]? = some l → st[j]? = some ts → ∃ as : List Addr, H l = some (.lst (as.map V.ref)) ∧ as.length = ts.length ∧ as.length ≤ n ∧
    ∀ (i : Nat) b t, as[i]? = some b → ts[i]? = some t → TreeAt K (mask (fun b => Hs b ≠ none ∨ b ∈ ls) H) b t
section
variable {K : PySem.W.Frag} {H0 Hs H H' : Hp} {R B l0 : Addr} {n : Nat} {st : Stk} {ls : List Addr} {bs : List Int}
/-- what was tracked ahead of the loop is -/
theorem RdInv.old (I : RdInv K H0 Hs R B l0 n st ls bs H) {b : Addr} (h : Hs b ≠ none) : H b ≠ none := by
  by_cases h1 : b = R
  · rw [h1, I.hR]; simp
  · by_cases h2 : b = B
    · rw [h2, I.hB]; simp
    · by_cases h3 : b = l0
      · rw [h3]; exact I.l0_
      · cases e : Hs b with
        | none => exact absurd e h
        | some o =>
          rw [I.fr b o e (by simp [h1, h2, h3])]
          simp
theorem RdInv.mem (I : RdInv K H0 Hs R B l0 n st ls bs H) {l : Addr} (h : l ∈ ls) : H l ≠ none := by
  obtain ⟨j, hj, e⟩ := List.mem_iff_getElem.mp h
  have hs : j < st.length := by rw [← I.ll]; exact hj
  obtain ⟨as, h1, _⟩ := I.at_ j l st[j] (by rw [List.getElem?_eq_getElem hj, e]) (List.getElem?_eq_getElem hs)
  rw [h1]; simp
/-- a new address is none of ours -/
theorem RdInv.fresh (I : RdInv K H0 Hs R B l0 n st ls bs H) {a : Addr} (h : H a = none) : ¬ (Hs a ≠ none ∨ a ∈ ls) := by
  rintro (q | q)
  · exact I.old q h
  · exact I.mem q h
theorem RdInv.same (I : RdInv K H0 Hs R B l0 n st ls bs H) (s : Same H H') : RdInv K H0 Hs R B l0 n st ls bs H' := by
  refine ⟨I.fr.trans (Fr.of_same s), s _ _ I.hR, s _ _ I.hB, I.ll, I.lb, I.nd, I.nR, I.nB, I.RB, I.sR, I.sB, I.s0, fun q => ?_, I.new, I.lsh, fun j l ts h1 h2 => ?_⟩
  · cases e : H l0 with
    | none => exact I.l0_ e
    | some o =>
      rw [s _ _ e] at q
      cases q
  · obtain ⟨as, h3, h4, h5, h6⟩ := I.at_ j l ts h1 h2
    exact ⟨as, s _ _ h3, h4, h5, fun i b t h7 h8 => (h6 i b t h7 h8).mono (mask_same fun b o e hp => ⟨hp, s _ _ e⟩)⟩
theorem RdInv.more (I : RdInv K H0 Hs R B l0 n st ls bs H) {m : Nat} (h : n ≤ m) : RdInv K H0 Hs R B l0 m st ls bs H :=
  ⟨I.fr, I.hR, I.hB, I.ll, I.lb, I.nd, I.nR, I.nB, I.RB, I.sR, I.sB, I.s0, I.l0_, I.new, I.lsh, fun j l ts h1 h2 => by
    obtain ⟨as, h3, h4, h5, h6⟩ := I.at_ j l ts h1 h2
    exact ⟨as, h3, h4, Nat.le_trans h5 h, h6⟩⟩
/-- the stack's last list -/
theorem RdInv.last {rest : Stk} {ts : List Tr} (I : RdInv K H0 Hs R B l0 n (rest ++ [ts]) ls bs H) : ∃ (lr : List Addr) (l : Addr) (as : List Addr), ls = lr ++ [l] ∧ H l = some (.lst (as.map V.ref)) ∧ as.length = ts.length ∧ as.length ≤ n ∧
    ∀ (i : Nat) b t, as[i]? = some b → ts[i]? = some t → TreeAt K (mask (fun b => Hs b ≠ none ∨ b ∈ ls) H) b t := by
  have hl := I.ll
  rw [List.length_append, List.length_singleton] at hl
  obtain ⟨lr, l, e⟩ : ∃ (lr : List Addr) (l : Addr), ls = lr ++ [l] := by
    have hne : ls ≠ [] := by intro q; rw [q] at hl; simp at hl
    exact ⟨ls.dropLast, ls.getLast hne, (List.dropLast_concat_getLast hne).symm⟩
  subst e
  have e1 : lr.length = rest.length := by rw [List.length_append, List.length_singleton] at hl; omega
  obtain ⟨as, h3, h4, h5, h6⟩ := I.at_ lr.length l ts (by simp) (by rw [e1]; simp)
  exact ⟨lr, l, as, rfl, h3, h4, h5, h6⟩
/-- one tree more at the end of the stack's last list -/
theorem RdInv.add {rest : Stk} {ts : List Tr} {lr as : List Addr} {l a : Addr} {x : Tr} (I : RdInv K H0 Hs R B l0 n (rest ++ [ts]) (lr ++ [l]) bs H) (hl : H l = some (.lst (as.map V.ref))) (hx : TreeAt K (mask (fun b => Hs b ≠ none ∨ b ∈ lr ++ [l]) H) a x) :
    RdInv K H0 Hs R B l0 (n + 1) (rest ++ [ts ++ [x]]) (lr ++ [l]) bs (upd H l (.lst (as.map V.ref ++ [V.ref a]))) := by
  have hR : R ≠ l := fun q => I.nR (by rw [q]; simp)
  have hB : B ≠ l := fun q => I.nB (by rw [q]; simp)
  have msk : Same (mask (fun b => Hs b ≠ none ∨ b ∈ lr ++ [l]) H) (mask (fun b => Hs b ≠ none ∨ b ∈ lr ++ [l]) (upd H l (.lst (as.map V.ref ++ [V.ref a])))) := mask_same fun b o e hp => ⟨hp, by
    have hne : b ≠ l := fun q => hp (.inr (by rw [q]; simp))
    rw [upd_ne hne]
    exact e⟩
  have hlen := I.ll
  rw [List.length_append, List.length_append, List.length_singleton, List.length_singleton] at hlen
  refine ⟨?_, by rw [upd_ne hR]; exact I.hR, by rw [upd_ne hB]; exact I.hB, by rw [List.length_append, List.length_append, List.length_singleton, List.length_singleton]; exact hlen, ?_, I.nd, I.nR, I.nB, I.RB, I.sR, I.sB, I.s0, ?_, I.new, I.lsh, fun j l' ts' h1 h2 => ?_⟩
  · intro b o e hb
    have hbl : b ≠ l := by
      rintro rfl
      rcases I.lsh b (by simp) with q | q
      · rw [q] at e; cases e
      · exact hb (by rw [q]; simp)
    rw [upd_ne hbl]
    exact I.fr b o e hb
  · have := I.lb
    rw [List.length_append, List.length_singleton] at this ⊢
    exact this
  · by_cases q : l0 = l
    · rw [q, upd_same]; simp
    · rw [upd_ne q]; exact I.l0_
  · by_cases hj : j < lr.length
    · rw [List.getElem?_append_left hj] at h1
      rw [List.getElem?_append_left (by omega)] at h2
      obtain ⟨as', h3, h4, h5, h6⟩ := I.at_ j l' ts' (by rw [List.getElem?_append_left hj]; exact h1) (by rw [List.getElem?_append_left (by omega)]; exact h2)
      have hne : l' ≠ l := by
        rintro rfl
        have := List.nodup_append.mp I.nd
        exact this.2.2 l' (List.mem_of_getElem? h1) l' (by simp) rfl
      exact ⟨as', by rw [upd_ne hne]; exact h3, h4, Nat.le_succ_of_le h5, fun i b t h7 h8 => (h6 i b t h7 h8).mono msk⟩
    · have hj2 : j = lr.length := by
        have := (List.getElem?_eq_some_iff.mp h1).1
        rw [List.length_append, List.length_singleton] at this
        omega
      subst hj2
      have el : l' = l := by
        have e : (lr ++ [l])[lr.length]? = some l := by simp
        rw [e] at h1
        exact (Option.some.inj h1).symm
      have et : ts' = ts ++ [x] := by
        have e : (rest ++ [ts ++ [x]])[lr.length]? = some (ts ++ [x]) := by
          rw [show lr.length = rest.length by omega]; simp
        rw [e] at h2
        exact (Option.some.inj h2).symm
      subst el et
      obtain ⟨as', h3, h4, h5, h6⟩ := I.at_ lr.length l' ts (by simp) (by rw [show lr.length = rest.length by omega]; simp)
      have ea : as' = as := by
        rw [h3] at hl
        have := Option.some.inj hl
        injection this with this
        exact (List.map_inj_right (fun a b q => V.ref.inj q)).mp this
      subst ea
      refine ⟨as' ++ [a], by rw [upd_same, List.map_append] <;> rfl, by rw [List.length_append, List.length_append, h4] <;> rfl, by rw [List.length_append, List.length_singleton]; omega, fun i b t h7 h8 => ?_⟩
      by_cases hi : i < as'.length
      · rw [List.getElem?_append_left hi] at h7
        rw [List.getElem?_append_left (by omega)] at h8
        exact (h6 i b t h7 h8).mono msk
      · have hi2 : i = as'.length := by
          have := (List.getElem?_eq_some_iff.mp h7).1
          rw [List.length_append, List.length_singleton] at this
          omega
        subst hi2
        have e1 : (as' ++ [a])[as'.length]? = some a := by simp
        have e2 : (ts ++ [x])[as'.length]? = some x := by rw [h4]; simp
        rw [e1] at h7
        rw [e2] at h8
        rw [← Option.some.inj h7, ← Option.some.inj h8]
        exact hx.mono msk
end
end Mh
namespace Mh
open PySem PySem.Spec PyProof.Rows L2 TL
section
variable {K : PySem.W.Frag} {H0 Hs H H' : Hp} {R B l0 : Addr} {n : Nat} {st : Stk} {ls : List Addr} {bs : List Int}
/-- a bracket opens -/
theorem RdInv.opn (I : RdInv K H0 Hs R B l0 n st ls bs H) {i : Int} {l' : Addr} (h0 : H0 l' = none) (hs : Hs l' = none) (hl : H l' = none) :
    RdInv K H0 Hs R B l0 (n + 1) (st ++ [[]]) (ls ++ [l']) (bs ++ [i]) (upd (upd (upd H B (.lst (bs.map V.int ++ [V.int i]))) l' (.lst [])) R (.lst (ls.map V.ref ++ [V.ref l']))) := by
  have hlB : l' ≠ B := fun q => by rw [q, I.hB] at hl; cases hl
  have hlR : l' ≠ R := fun q => by rw [q, I.hR] at hl; cases hl
  have hlm : l' ∉ ls := fun q => I.mem q hl
  have RB := I.RB
  have keep : ∀ b o, H b = some o → b ≠ R → b ≠ B → upd (upd (upd H B (.lst (bs.map V.int ++ [V.int i]))) l' (.lst [])) R (.lst (ls.map V.ref ++ [V.ref l'])) b = some o := fun b o e h1 h2 => by
    rw [upd_ne h1, upd_ne (ne_of_none e hl), upd_ne h2]
    exact e
  have nRl : ∀ l ∈ ls, l ≠ R := fun l h q => I.nR (by rw [← q]; exact h)
  have nBl : ∀ l ∈ ls, l ≠ B := fun l h q => I.nB (by rw [← q]; exact h)
  refine ⟨fun b o e hb => ?_, ?_, ?_, ?_, ?_, ?_, ?_, ?_, RB, I.sR, I.sB, I.s0, ?_, ?_, ?_, ?_⟩
  · exact keep b o (I.fr b o e hb) (fun q => hb (by rw [q]; simp)) (fun q => hb (by rw [q]; simp))
  · rw [upd_same, List.map_append] <;> rfl
  · rw [upd_ne RB.symm, upd_ne hlB.symm, upd_same, List.map_append] <;> rfl
  · rw [List.length_append, List.length_append, I.ll] <;> rfl
  · rw [List.length_append, List.length_append, ← I.lb] <;> rfl
  · rw [List.nodup_append]
    refine ⟨I.nd, by simp, fun a ha b hb => ?_⟩
    rw [List.mem_singleton.mp hb]
    exact fun q => hlm (by rw [← q]; exact ha)
  · intro q
    rcases List.mem_append.mp q with q | q
    · exact I.nR q
    · exact hlR (List.mem_singleton.mp q).symm
  · intro q
    rcases List.mem_append.mp q with q | q
    · exact I.nB q
    · exact hlB (List.mem_singleton.mp q).symm
  · by_cases h1 : l0 = R
    · rw [h1, upd_same]; simp
    · by_cases h2 : l0 = B
      · rw [h2, upd_ne RB.symm, upd_ne hlB.symm, upd_same]; simp
      · cases e : H l0 with
        | none => exact absurd e I.l0_
        | some o =>
          rw [keep l0 o e h1 h2]
          simp
  · intro l hm
    rcases List.mem_append.mp hm with q | q
    · exact I.new l q
    · rw [List.mem_singleton.mp q]; exact h0
  · intro l hm
    rcases List.mem_append.mp hm with q | q
    · exact I.lsh l q
    · rw [List.mem_singleton.mp q]; exact .inl hs
  · intro j l ts h1 h2
    have hll := I.ll
    by_cases hj : j < ls.length
    · rw [List.getElem?_append_left hj] at h1
      rw [List.getElem?_append_left (by omega)] at h2
      obtain ⟨as, h3, h4, h5, h6⟩ := I.at_ j l ts h1 h2
      have hm := List.mem_of_getElem? h1
      refine ⟨as, keep l _ h3 (nRl l hm) (nBl l hm), h4, Nat.le_succ_of_le h5, fun i b t h7 h8 => (h6 i b t h7 h8).mono (mask_same fun b o e hp => ⟨?_, keep b o e ?_ ?_⟩)⟩
      · rintro (q | q)
        · exact hp (.inl q)
        · rcases List.mem_append.mp q with q | q
          · exact hp (.inr q)
          · rw [List.mem_singleton.mp q, hl] at e; cases e
      · exact fun q => hp (.inl (by rw [q]; exact I.sR))
      · exact fun q => hp (.inl (by rw [q]; exact I.sB))
    · have hj2 : j = ls.length := by
        have := (List.getElem?_eq_some_iff.mp h1).1
        rw [List.length_append, List.length_singleton] at this
        omega
      subst hj2
      have e1 : (ls ++ [l'])[ls.length]? = some l' := by simp
      have e2 : (st ++ [[]])[ls.length]? = some ([] : List Tr) := by rw [hll]; simp
      rw [e1] at h1
      rw [e2] at h2
      rw [← Option.some.inj h1, ← Option.some.inj h2]
      exact ⟨[], by rw [upd_ne hlR, upd_same] <;> rfl, rfl, Nat.zero_le _, fun i b t h => by simp at h⟩
/-- a bracket closes: the last list is taken off -/
theorem RdInv.pop {rest : Stk} {p t : List Tr} {lr : List Addr} {l1 l2 : Addr} {i : Int} (I : RdInv K H0 Hs R B l0 n (rest ++ [p] ++ [t]) (lr ++ [l1] ++ [l2]) (bs ++ [i]) H) :
    RdInv K H0 Hs R B l0 n (rest ++ [p]) (lr ++ [l1]) bs (upd (upd H R (.lst ((lr ++ [l1]).map V.ref))) B (.lst (bs.map V.int))) ∧
    ∃ as : List Addr, upd (upd H R (.lst ((lr ++ [l1]).map V.ref))) B (.lst (bs.map V.int)) l2 = some (.lst (as.map V.ref)) ∧ as.length = t.length ∧ as.length ≤ n ∧
      ∀ (i : Nat) b x, as[i]? = some b → t[i]? = some x → TreeAt K (mask (fun b => Hs b ≠ none ∨ b ∈ lr ++ [l1]) (upd (upd H R (.lst ((lr ++ [l1]).map V.ref))) B (.lst (bs.map V.int)))) b x := by
  have RB := I.RB
  have keep : ∀ b o, H b = some o → b ≠ R → b ≠ B → upd (upd H R (.lst ((lr ++ [l1]).map V.ref))) B (.lst (bs.map V.int)) b = some o := fun b o e h1 h2 => by
    rw [upd_ne h2, upd_ne h1]
    exact e
  have nRl : ∀ l ∈ lr ++ [l1] ++ [l2], l ≠ R := fun l h q => I.nR (by rw [← q]; exact h)
  have nBl : ∀ l ∈ lr ++ [l1] ++ [l2], l ≠ B := fun l h q => I.nB (by rw [← q]; exact h)
  have sub : ∀ l, l ∈ lr ++ [l1] → l ∈ lr ++ [l1] ++ [l2] := fun l h => List.mem_append_left _ h
  have msk : Same (mask (fun b => Hs b ≠ none ∨ b ∈ lr ++ [l1] ++ [l2]) H) (mask (fun b => Hs b ≠ none ∨ b ∈ lr ++ [l1]) (upd (upd H R (.lst ((lr ++ [l1]).map V.ref))) B (.lst (bs.map V.int)))) :=
    mask_same fun b o e hp => ⟨fun q => hp (q.imp id (sub b)), keep b o e (fun q => hp (.inl (by rw [q]; exact I.sR))) (fun q => hp (.inl (by rw [q]; exact I.sB)))⟩
  have hll := I.ll
  simp only [List.length_append, List.length_singleton] at hll
  have hlb := I.lb
  simp only [List.length_append, List.length_singleton] at hlb
  refine ⟨⟨fun b o e hb => ?_, ?_, ?_, ?_, ?_, ?_, ?_, ?_, RB, I.sR, I.sB, I.s0, ?_, fun l hl => I.new l (sub l hl), fun l hl => I.lsh l (sub l hl), ?_⟩, ?_⟩
  · exact keep b o (I.fr b o e hb) (fun q => hb (by rw [q]; simp)) (fun q => hb (by rw [q]; simp))
  · rw [upd_ne RB, upd_same]
  · rw [upd_same]
  · simp only [List.length_append, List.length_singleton]; omega
  · simp only [List.length_append, List.length_singleton]; omega
  · exact (List.nodup_append.mp I.nd).1
  · exact fun q => I.nR (sub R q)
  · exact fun q => I.nB (sub B q)
  · by_cases h1 : l0 = B
    · rw [h1, upd_same]; simp
    · by_cases h2 : l0 = R
      · rw [h2, upd_ne RB, upd_same]; simp
      · cases e : H l0 with
        | none => exact absurd e I.l0_
        | some o =>
          rw [keep l0 o e h2 h1]
          simp
  · intro j l ts h1 h2
    have hj : j < (lr ++ [l1]).length := (List.getElem?_eq_some_iff.mp h1).1
    have hj2 : j < (rest ++ [p]).length := (List.getElem?_eq_some_iff.mp h2).1
    obtain ⟨as, h3, h4, h5, h6⟩ := I.at_ j l ts (by rw [List.getElem?_append_left hj]; exact h1) (by rw [List.getElem?_append_left hj2]; exact h2)
    have hm := sub l (List.mem_of_getElem? h1)
    exact ⟨as, keep l _ h3 (nRl l hm) (nBl l hm), h4, h5, fun i b t h7 h8 => (h6 i b t h7 h8).mono msk⟩
  · have e1 : (lr ++ [l1] ++ [l2])[(lr ++ [l1]).length]? = some l2 := by simp
    have e2 : (rest ++ [p] ++ [t])[(lr ++ [l1]).length]? = some t := by
      have : (lr ++ [l1]).length = (rest ++ [p]).length := by simp only [List.length_append, List.length_singleton]; omega
      rw [this]; simp
    obtain ⟨as, h3, h4, h5, h6⟩ := I.at_ _ l2 t e1 e2
    exact ⟨as, keep l2 _ h3 (nRl l2 (by simp)) (nBl l2 (by simp)), h4, h5, fun i b x h7 h8 => (h6 i b x h7 h8).mono msk⟩
end
/-! ### how a step of the reader's stack looks -/
theorem pushT_inv : ∀ {st st' : Stk} {x : Tr}, pushT st x = some st' → ∃ rest ts, st = rest ++ [ts] ∧ st' = rest ++ [ts ++ [x]]
  | [], _, _, h => by cases h
  | [l], st', x, h => by
    have e : [l ++ [x]] = st' := Option.some.inj h
    exact ⟨[], l, rfl, e.symm⟩
  | a :: b :: r, st', x, h => by
    have h' : (pushT (b :: r) x).map (a :: ·) = some st' := h
    cases e : pushT (b :: r) x with
    | none => rw [e] at h'; cases h'
    | some s =>
      rw [e] at h'
      obtain ⟨rest, ts, e1, e2⟩ := pushT_inv e
      have e3 : a :: s = st' := Option.some.inj h'
      exact ⟨a :: rest, ts, by rw [e1] <;> rfl, by rw [← e3, e2] <;> rfl⟩
theorem rstep_opn_inv {st st' : Stk} (h : rstep st .opn = some st') : st.length ≤ 60 ∧ st' = st ++ [[]] := by
  have h' : (if st.length ≤ 60 then some (st ++ [[]]) else none) = some st' := h
  by_cases hl : st.length ≤ 60
  · rw [if_pos hl] at h'
    exact ⟨hl, (Option.some.inj h').symm⟩
  · rw [if_neg hl] at h'
    cases h'
theorem rstep_cls_inv {st st' : Stk} (h : rstep st .cls = some st') : ∃ rest p t, st = rest ++ [p] ++ [t] ∧ st' = rest ++ [p ++ [.row t]] := by
  have h' : (match st.reverse with | t :: p :: r => some (r.reverse ++ [p ++ [Tr.row t]]) | _ => none) = some st' := h
  cases e : st.reverse with
  | nil => rw [e] at h'; cases h'
  | cons t r =>
    cases r with
    | nil => rw [e] at h'; cases h'
    | cons p r =>
      rw [e] at h'
      have e2 : r.reverse ++ [p ++ [Tr.row t]] = st' := Option.some.inj h'
      refine ⟨r.reverse, p, t, ?_, e2.symm⟩
      have := congrArg List.reverse e
      rw [List.reverse_reverse] at this
      rw [this]
      simp
/-- how many signs a tree has -/
def ksz : Nat → Nat
  | 0 => 1
  | n + 1 => 4 * ksz n + 3
theorem ksz_pos : ∀ n, 1 ≤ ksz n
  | 0 => Nat.le_refl _
  | n + 1 => by show 1 ≤ 4 * ksz n + 3; omega
theorem toks_len : ∀ (ps : List LT) (m : Nat), (∀ p ∈ ps, p.tok.length ≤ m) → (LT.toks ps).length ≤ ps.length * m
  | [], _, _ => by simp [LT.toks]
  | p :: ps, m, h => by
    show (p.tok ++ LT.toks ps).length ≤ _
    have h1 := h p List.mem_cons_self
    have h2 := toks_len ps m fun q hq => h q (List.mem_cons_of_mem _ hq)
    rw [List.length_append, List.length_cons, Nat.succ_mul]
    omega
theorem tok_len {nm : List Cs} : ∀ {n : Nat} {t : LT}, LOk nm n t → t.tok.length ≤ ksz n
  | n, .num k, _ => ksz_pos n
  | n, .seen k w, _ => ksz_pos n
  | n, .free w, _ => ksz_pos n
  | 0, .node _ _, h => by unfold LOk at h; exact h.elim
  | n + 1, .node kd ps, h => by
    unfold LOk at h
    have hp := h.1.pos
    have h1 := toks_len ps (ksz n) fun p hp => tok_len (h.2 p hp)
    have hk : kd.tok.length ≤ 1 := by cases kd <;> decide
    show (Tk.opn :: (kd.tok ++ (LT.toks ps ++ [.cls]))).length ≤ 4 * ksz n + 3
    rw [List.length_cons, List.length_append, List.length_append, List.length_singleton]
    have h2 : ps.length * ksz n ≤ 4 * ksz n := Nat.mul_le_mul_right _ hp.2
    omega
theorem toks_ok {nm : List Cs} (N : Names nm) (n : Nat) : ∀ (ps : List LT), (∀ p ∈ ps, ∀ k ∈ p.tok, TkOk k) → ∀ k ∈ LT.toks ps, TkOk k
  | [], _, k, h => by cases h
  | p :: ps, h, k, hk => by
    have hk' : k ∈ p.tok ++ LT.toks ps := hk
    rcases List.mem_append.mp hk' with q | q
    · exact h p List.mem_cons_self k q
    · exact toks_ok N n ps (fun p' hp' => h p' (List.mem_cons_of_mem _ hp')) k q
theorem tok_ok {nm : List Cs} (N : Names nm) : ∀ {n : Nat} {t : LT}, LOk nm n t → ∀ k ∈ t.tok, TkOk k
  | n, .num i, h, k, hk => by
    have h' : -big < i ∧ i < big := by cases n <;> (unfold LOk at h; exact h)
    rw [List.mem_singleton.mp (show k ∈ [Tk.nm i] from hk)]
    exact h'
  | n, .seen j w, h, k, hk => by
    have h' : nm[j]? = some w := by cases n <;> (unfold LOk at h; exact h.2)
    rw [List.mem_singleton.mp (show k ∈ [Tk.wd w] from hk)]
    exact N.ok w (List.mem_of_getElem? h')
  | n, .free w, h, k, hk => by
    obtain ⟨j, _, e⟩ : ∃ j, 2 ≤ j ∧ nm[j]? = some w := by cases n <;> (unfold LOk at h; exact h)
    rw [List.mem_singleton.mp (show k ∈ [Tk.wd w] from hk)]
    exact N.ok w (List.mem_of_getElem? e)
  | 0, .node _ _, h, _, _ => by unfold LOk at h; exact h.elim
  | n + 1, .node kd ps, h, k, hk => by
    unfold LOk at h
    have hk' : k ∈ Tk.opn :: (kd.tok ++ (LT.toks ps ++ [.cls])) := hk
    rcases List.mem_cons.mp hk' with q | q
    · rw [q]; trivial
    · rcases List.mem_append.mp q with q | q
      · cases kd with
        | call => cases q
        | pick => rw [List.mem_singleton.mp (show k ∈ [Tk.wd wPick] from q)]; exact wPick_ok
        | now => rw [List.mem_singleton.mp (show k ∈ [Tk.wd wNow] from q)]; exact wNow_ok
      · rcases List.mem_append.mp q with q | q
        · exact toks_ok N n ps (fun p hp => tok_ok N (h.2 p hp)) k q
        · rw [List.mem_singleton.mp q]; trivial
end Mh
namespace Mh
open PySem PySem.Spec PyProof.Rows L2 TL
section
variable {P : Program} {w : World} {K : PySem.W.Frag} {mg : Str → Option Value} {base : Heap}
/-! ### reader.read -/
theorem sc_read : FnScope ["text", "rows", "begins", "at", "piece", "parts"] ["text"] (defScope s_read) := ⟨rfl, rfl, rfl, by decide +kernel, rfl, by decide +kernel, by decide +kernel⟩
/-- what is new in H' behind H -/
noncomputable def newp (H H' : Hp) : Hp := mask (fun b => H b ≠ none) H'
def spRead (K : PySem.W.Frag) : Sp := fun vs H Q _ => ∃ (z : Cs) (tr : Tr) (ks : List Tk), vs = [.str (S z)] ∧ z.length ≤ 30000 ∧ words (spaced z) = ks.map Tk.cs ∧ (∀ k ∈ ks, TkOk k) ∧ ks.length ≤ 900 ∧ rrun ks [[]] = some [[tr]] ∧
  ∀ (H' : Hp) (l a : Addr), Same H H' → H l = none → H' l = some (.lst [.ref a]) → TreeAt K (newp H H') a tr → Q (.ref l) H'
theorem at_last (xs : List V) (v : V) : atI (xs ++ [v]) (-1) = some v := atI_last xs v
theorem ok_read (T : Txt K mg) : CallF P w K mg base 5 "read" ["text"] [] (spRead K) := by
  obtain ⟨fd, F⟩ := T.f_read
  refine ⟨_, fd, [], T.g_read, F.kp, F.bindsN (ps := ["text"]) (fun _ _ _ _ _ _ us hl => match us, hl with | [_], _ => rfl), .nil, okN F sc_read (fun vs H Q E h => ?_) fun cdv A outer s H vs Q E hr h => ?_⟩
  · obtain ⟨z, tr, ks, rfl, _⟩ := h
    rfl
  obtain ⟨z, tr, ks, rfl, hz, hw, hk, hkl, hrun, q⟩ := h
  refine ⟨_, pss_cons (ps_set (i := 1) sc_read.nd rfl (Or.inl rfl) (pe_lst (pa_cons (pe_lst pa_nil) pa_nil)))
    (pss_cons (ps_set (i := 2) sc_read.nd rfl (Or.inl rfl) (pe_lst pa_nil))
    (pss_cons (ps_for PassesOwn.never rfl (pi_enum (by rfl) T.z_enumerate (pa_cons (pf (ok_signs T) (hr.mono (by decide)) (by rfl) (pa_cons (pv 0) pa_nil)) pa_nil))
        (pg_tup rfl (pgs_cons (pg_name (i := 3) sc_read.nd rfl (Or.inl rfl)) (pgs_cons (pg_name (i := 4) sc_read.nd rfl (Or.inl rfl)) pgs_nil)))
        (pss_one (ps_if (pt_cmpR op_eq (pv 4) pe_str (nomark _))
          (pss_cons (ps_if (pt_cmpR op_eq (pe_callB call_len_seq (by rfl) T.z_len PySem.boot_len (pa_cons (pv 2) pa_nil)) (pgi T.i_DEEPEST_reader) (nomark _)) (pss_one ps_never) pss_nil)
          (pss_cons (ps_expr (pe_bm PySem.F.plainAttrs_list PySem.F.slot_list_append PySem.F.type_list_append mt_append (pv 2) (pa_cons (pv 3) pa_nil)))
          (pss_one (ps_expr (pe_bm PySem.F.plainAttrs_list PySem.F.slot_list_append PySem.F.type_list_append mt_append (pv 1) (pa_cons (pe_lst pa_nil) pa_nil))))))
          (pss_one (ps_if (pt_cmpR op_eq (pv 4) pe_str (nomark _))
            (pss_cons (ps_if (pt_cmpR (op_eq_nil (hu1 hr)) (pv 2) (pe_lst pa_nil) (nomark _)) (pss_one ps_never) pss_nil)
            (pss_cons (ps_set (i := 5) sc_read.nd rfl (Or.inl rfl) (pe_bm0 PySem.F.plainAttrs_list PySem.F.slot_list_pop PySem.F.type_list_pop mt_pop (pv 1)))
            (pss_one (ps_expr (pe_bm PySem.F.plainAttrs_list PySem.F.slot_list_append PySem.F.type_list_append mt_append (pe_ix ix_list (pv 1) (pe_un un_neg pe_int) (fun _ _ => rfl))
              (pa_cons (pc (ok_row T) (hr.mono (by decide)) (by rfl) (pa_cons (pv 5) (pa_cons (pe_bm0 PySem.F.plainAttrs_list PySem.F.slot_list_pop PySem.F.type_list_pop mt_pop (pv 2)) pa_nil))) pa_nil))))))
            (pss_one (ps_expr (pe_bm PySem.F.plainAttrs_list PySem.F.slot_list_append PySem.F.type_list_append mt_append (pe_ix ix_list (pv 1) (pe_un un_neg pe_int) (fun _ _ => rfl))
              (pa_cons (pf (ok_leaf T) hr (by rfl) (pa_cons (pv 4) (pa_cons (pv 3) pa_nil))) pa_nil)))))))))
    (pss_cons (ps_if (pt_cmpR (op_ne_nil (hu1 hr)) (pv 2) (pe_lst pa_nil) (nomark _)) (pss_one ps_never) pss_nil)
    (pss_one (ps_ret (pe_ix ix_list (pv 1) pe_int (fun _ _ => rfl))))))), ?_⟩
  -- rows, begins
  refine ⟨Nat.zero_le _, fun l0 hl0 => ⟨(by show 1 ≤ sizeLine; decide), fun R hR => ?_⟩⟩
  refine ⟨Nat.zero_le _, fun B hB => ?_⟩
  have n0R : l0 ≠ R := fun e => by rw [← e, upd_same] at hR; cases hR
  have hR0 : H R = none := by rw [upd_ne n0R.symm] at hR; exact hR
  have nRB : R ≠ B := fun e => by rw [← e, upd_same] at hB; cases hB
  have n0B : l0 ≠ B := fun e => by rw [← e, upd_ne n0R, upd_same] at hB; cases hB
  have hB0 : H B = none := by rw [upd_ne nRB.symm, upd_ne n0B.symm] at hB; exact hB
  have s3 : Same H (upd (upd (upd H l0 (.lst [])) R (.lst [.ref l0])) B (.lst [])) := ((Same.put hl0).trans (Same.put hR)).trans (Same.put hB)
  -- the signs
  refine ⟨_, rfl, z, ks, rfl, hz, hw, hk, fun H1 p s1 hp e1 => ⟨p, _, rfl, SqL.of e1, ?_⟩⟩
  have eR : H1 R = some (.lst [.ref l0]) := s1 _ _ (by rw [upd_ne nRB, upd_same])
  have eB : H1 B = some (.lst []) := s1 _ _ upd_same
  have e0 : H1 l0 = some (.lst []) := s1 _ _ (by rw [upd_ne n0B, upd_ne n0R, upd_same])
  have hpR : p ≠ R := fun e => by rw [e, upd_ne nRB, upd_same] at hp; cases hp
  have hpB : p ≠ B := fun e => by rw [e, upd_same] at hp; cases hp
  have hp0 : p ≠ l0 := fun e => by rw [e, upd_ne n0B, upd_ne n0R, upd_same] at hp; cases hp
  have start : RdInv K H H1 R B l0 0 [[]] [l0] [] H1 := by
    refine ⟨fun b o e _ => e, eR, eB, rfl, rfl, by simp, by simpa using n0R.symm, by simpa using n0B.symm, nRB, by rw [eR]; simp, by rw [eB]; simp, by rw [e0]; simp, by rw [e0]; simp, fun l hl => by rw [List.mem_singleton.mp hl]; exact hl0,
      fun l hl => .inr (List.mem_singleton.mp hl), fun j l ts h1 h2 => ?_⟩
    match j, h1, h2 with
    | 0, h1, h2 =>
      have el : l0 = l := Option.some.inj h1
      have et : [] = ts := Option.some.inj h2
      subst el et
      exact ⟨[], e0, rfl, Nat.le_refl _, fun i b t h => by simp at h⟩
    | j + 1, h1, h2 => simp at h1
  refine for_it (walk_enum (K := K) (a := p) (xs := ks.map tkV)) (fun i σ H' => ∃ (st : Stk) (ls : List Addr) (bs : List Int) (v3 v4 v5 : Option V), σ = [some (.str (S z)), some (.ref R), some (.ref B), v3, v4, v5] ∧ rrun (ks.take i) [[]] = some st ∧ RdInv K H H1 R B l0 i st ls bs H')
    ⟨[[]], [l0], [], _, _, _, rfl, rfl, start⟩ ?_ ?_ ?_
  · rintro i σ H' _ ⟨st, ls, bs, v3, v4, v5, rfl, _, I⟩
    exact SqL.of (I.fr p _ e1 (by simp [hpR, hpB, hp0]))
  · rintro i x σ H2 H3 hi ⟨st, ls, bs, v3, v4, v5, rfl, hst, I0⟩ ⟨Tp, xi, y, rfl, hT, rfl, exi, ey⟩
    rw [List.length_map] at hi
    have exi' : xi = .int (i : Nat) := (Option.some.inj exi).symm
    subst exi'
    have ey' : (ks.map tkV)[i]? = some y := ey
    rw [List.getElem?_map] at ey'
    obtain ⟨k, hki, rfl⟩ := Option.map_eq_some_iff.mp ey'
    obtain ⟨si, hsi, hstep⟩ := rrun_take hrun i
    have esi : si = st := Option.some.inj (hsi.symm.trans hst)
    subst esi
    obtain ⟨sj, hj, hjr⟩ := hstep k hki
    have hko := hk k (List.mem_of_getElem? hki)
    refine ⟨Tp, _, rfl, SqT.of upd_same, rfl, _, _, rfl, _, _, rfl, rfl, ?_⟩
    have I := I0.same (Same.put hT (o := .tup [.int (i : Nat), tkV k]))
    generalize upd H2 Tp (.tup [.int (i : Nat), tkV k]) = H3 at I
    have hbl : bs.length ≤ 1000 ∨ True := .inr trivial
    refine ⟨_, rfl, scal_str, _, rfl, ?_⟩
    cases k with
    | opn =>
      refine ifT (by rw [l_opn]; show decide (V.str (S [40]) = V.str (S [40])) = true; exact decide_eq_true rfl) ?_
      obtain ⟨hl60, rfl⟩ := rstep_opn_inv hj
      have hbs : bs.length ≤ 59 := by have := I.lb; omega
      have hls : ls.length ≤ 60 := by have := I.ll; omega
      refine ⟨_, rfl, B, _, rfl, .inl (SqL.of I.hB), rfl, _, rfl, ?_⟩
      refine ifF (decide_eq_false fun e => by have := V.int.inj e; rw [List.length_map] at this; omega) ?_
      refine ⟨_, rfl, .inl ⟨rfl, _, SqL.of I.hB⟩, _, rfl, B, _, _, rfl, rfl, I.hB, sl1000 (by rw [List.length_map]; omega), ?_⟩
      have hR1 : upd H3 B (.lst (bs.map V.int ++ [V.int (i : Nat)])) R = some (.lst (ls.map V.ref)) := by rw [upd_ne nRB]; exact I.hR
      refine ⟨_, rfl, .inl ⟨rfl, _, SqL.of hR1⟩, Nat.zero_le _, fun l' hl' => ?_⟩
      have hl3 : H3 l' = none := by
        have : l' ≠ B := fun e => by rw [e, upd_same] at hl'; cases hl'
        rw [upd_ne this] at hl'
        exact hl'
      have hRl : R ≠ l' := fun e => by rw [← e, I.hR] at hl3; cases hl3
      refine ⟨R, _, _, rfl, rfl, by rw [upd_ne hRl]; exact hR1, sl1000 (by rw [List.length_map]; omega), ?_⟩
      have hs1 : H1 l' = none := Classical.byContradiction fun e => I.old e hl3
      exact ⟨_, _, _, _, _, _, rfl, hjr, I.opn ((s3.trans s1).free hs1) hs1 hl3⟩
    | cls =>
      refine ifF (by rw [l_opn]; show decide (V.str (S [41]) = V.str (S [40])) = false; rw [dec_S] <;> rfl) ?_
      refine ⟨_, rfl, scal_str, _, rfl, ?_⟩
      refine ifT (by rw [l_cls]; show decide (V.str (S [41]) = V.str (S [41])) = true; exact decide_eq_true rfl) ?_
      obtain ⟨rest, pp, tt, rfl, rfl⟩ := rstep_cls_inv hj
      have hll := I.ll
      simp only [List.length_append, List.length_singleton] at hll
      have hlb := I.lb
      simp only [List.length_append, List.length_singleton] at hlb
      -- the names of the stack's lists
      obtain ⟨lr1, l2, _, els, _⟩ := I.last
      subst els
      obtain ⟨lr, l1, elr⟩ : ∃ (lr : List Addr) (l1 : Addr), lr1 = lr ++ [l1] := by
        have hne : lr1 ≠ [] := by intro e; rw [e] at hll; simp at hll
        exact ⟨lr1.dropLast, lr1.getLast hne, (List.dropLast_concat_getLast hne).symm⟩
      subst elr
      obtain ⟨bs1, bi, ebs⟩ : ∃ (bs1 : List Int) (bi : Int), bs = bs1 ++ [bi] := by
        have hne : bs ≠ [] := by intro e; rw [e] at hlb; simp at hlb
        exact ⟨bs.dropLast, bs.getLast hne, (List.dropLast_concat_getLast hne).symm⟩
      subst ebs
      -- if begins == []
      refine ⟨_, rfl, Nat.zero_le _, fun b0 hb0 => ⟨B, b0, _, rfl, rfl, SqL.of ((Same.put hb0) _ _ I.hB), upd_same, (fun e => by rw [← e, I.hB] at hb0; cases hb0), _, rfl, ?_⟩⟩
      refine ifF (by rw [if_neg Bool.false_ne_true, List.map_append]; simp) ?_
      have I := I.same (Same.put hb0 (o := .lst []))
      generalize upd H3 b0 (.lst []) = H3 at I
      -- parts = rows.pop()
      have hR1 : H3 R = some (.lst ((lr ++ [l1]).map V.ref ++ [V.ref l2])) := by rw [I.hR, List.map_append] <;> rfl
      have hB1 : H3 B = some (.lst (bs1.map V.int ++ [V.int bi])) := by rw [I.hB, List.map_append] <;> rfl
      refine ⟨_, rfl, .inl ⟨rfl, _, SqL.of hR1⟩, R, _, V.ref l2, rfl, rfl, hR1, by simp, ?_⟩
      rw [List.dropLast_concat]
      obtain ⟨J, as2, hl2, hlen2, hn2, htr⟩ := I.pop
      have hlast1 : upd (upd H3 R (.lst ((lr ++ [l1]).map V.ref))) B (.lst (bs1.map V.int)) l1 ≠ none := J.mem (by simp)
      have nl1R : l1 ≠ R := fun e => J.nR (by rw [← e]; simp)
      have nl1B : l1 ≠ B := fun e => J.nB (by rw [← e]; simp)
      obtain ⟨lr', l1', as1, e1', hl1, hlen1, hn1, _⟩ := J.last
      have el1 : l1' = l1 := by
        have := congrArg List.getLast? e1'
        simp at this
        exact this.symm
      have elr' : lr' = lr := by
        have := congrArg List.dropLast e1'
        rw [List.dropLast_concat, List.dropLast_concat] at this
        exact this.symm
      subst el1 elr'
      have hl1b : upd H3 R (.lst ((lr' ++ [l1']).map V.ref)) l1' = some (.lst (as1.map V.ref)) := by
        rw [upd_ne nl1B] at hl1
        exact hl1
      -- rows[-1]
      refine ⟨_, rfl, 1, rfl, R, _, _, V.ref l1', rfl, rfl, SqL.of (by rw [upd_same, List.map_append] <;> rfl), at_last _ _, ?_⟩
      refine ⟨.inl ⟨rfl, _, SqL.of hl1b⟩, ?_⟩
      -- Row(parts, begins.pop())
      refine ⟨_, rfl, _, rfl, .inl ⟨rfl, _, SqL.of (by rw [upd_ne nRB.symm]; exact hB1)⟩, B, _, V.int bi, rfl, rfl, by rw [upd_ne nRB.symm]; exact hB1, by simp, fun x dx nx ndx nex => ?_⟩
      rw [List.dropLast_concat] at nx ndx ⊢
      generalize hH4 : upd (upd H3 R (.lst ((lr' ++ [l1']).map V.ref))) B (.lst (bs1.map V.int)) = H4 at J hl2 htr hl1 nx ndx
      have s4 : Same H4 (upd (upd H4 dx (.own x)) x (.ins (cR K) dx [])) := Same.put2 nx ndx
      refine ⟨x, dx, l2, as2, bi, rfl, upd_same, s4 _ _ hl2, by omega, fun b hb => ?_, fun H5 m d pr fr5 hx5 hp5 hpn => ⟨rfl, ?_⟩⟩
      · obtain ⟨jj, hjj, ejj⟩ := List.mem_iff_getElem.mp hb
        have := htr jj b tt[jj] (by rw [List.getElem?_eq_getElem hjj, ejj]) (List.getElem?_eq_getElem (by omega))
        exact ((this.nd T).mono mask_sub).mono s4
      have s5 : Same H4 H5 := fun b o e => fr5 b o (s4 _ _ e) (by simpa using ne_of_none e nx)
      have npx : pr ≠ x := fun e => by rw [e, upd_same] at hpn; cases hpn
      have npd : pr ≠ dx := fun e => by rw [e, upd_ne nex, upd_same] at hpn; cases hpn
      have hpr4 : H4 pr = none := by rw [upd_ne npx, upd_ne npd] at hpn; exact hpn
      refine ⟨l1', _, _, rfl, rfl, s5 _ _ hl1, sl1000 (by rw [List.length_map]; omega), ?_⟩
      have J5 := J.same s5
      have hrow : TreeAt K (mask (fun b => H1 b ≠ none ∨ b ∈ lr' ++ [l1']) H5) x (.row tt) := by
        refine .row (mask_mk (J.fresh nx) hx5) (mask_mk (J.fresh hpr4) hp5) hlen2 fun jj b t h1 h2 => ?_
        exact (htr jj b t h1 h2).mono (mask_same fun b o e hp => ⟨hp, s5 _ _ e⟩)
      exact ⟨_, _, _, _, _, _, rfl, hjr, J5.add (s5 _ _ hl1) hrow⟩
    | wd wd =>
      have hwd : WdOk wd := hko
      obtain ⟨c, r, e, h1, h2⟩ := hwd.ne
      have n1 : wd ≠ [40] := by rw [e]; intro q; injection q with q; omega
      have n2 : wd ≠ [41] := by rw [e]; intro q; injection q with q; omega
      refine ifF (by rw [l_opn]; show decide (V.str (S wd) = V.str (S [40])) = false; rw [dec_S]; exact decide_eq_false n1) ?_
      refine ⟨_, rfl, scal_str, _, rfl, ?_⟩
      refine ifF (by rw [l_cls]; show decide (V.str (S wd) = V.str (S [41])) = false; rw [dec_S]; exact decide_eq_false n2) ?_
      obtain ⟨rest, ts, rfl, rfl⟩ := pushT_inv hj
      obtain ⟨lr, l, as, rfl, hl, hlen, hn, _⟩ := I.last
      refine ⟨_, rfl, 1, rfl, R, _, _, V.ref l, rfl, rfl, SqL.of (by rw [I.hR, List.map_append] <;> rfl), at_last _ _, ?_⟩
      refine ⟨.inl ⟨rfl, _, SqL.of hl⟩, ?_⟩
      refine ⟨_, rfl, _, rfl, .wd wd, (i : Nat), rfl, hwd, fun H4 a s4 na nl => ?_⟩
      refine ⟨l, _, _, rfl, rfl, s4 _ _ hl, sl1000 (by rw [List.length_map]; omega), ?_⟩
      obtain ⟨dx, ii, ha⟩ := nl
      exact ⟨_, _, _, _, _, _, rfl, hjr, (I.same s4).add (s4 _ _ hl) (.word (mask_mk (I.fresh na) ha))⟩
    | nm n =>
      have hn' : -big < n ∧ n < big := hko
      have n1 : numC n ≠ [40] := fun q => by
        have := numC_chars (n := n) 40 (by rw [q]; simp)
        omega
      have n2 : numC n ≠ [41] := fun q => by
        have := numC_chars (n := n) 41 (by rw [q]; simp)
        omega
      refine ifF (by rw [l_opn]; show decide (V.str (S (numC n)) = V.str (S [40])) = false; rw [dec_S]; exact decide_eq_false n1) ?_
      refine ⟨_, rfl, scal_str, _, rfl, ?_⟩
      refine ifF (by rw [l_cls]; show decide (V.str (S (numC n)) = V.str (S [41])) = false; rw [dec_S]; exact decide_eq_false n2) ?_
      obtain ⟨rest, ts, rfl, rfl⟩ := pushT_inv hj
      obtain ⟨lr, l, as, rfl, hl, hlen, hn, _⟩ := I.last
      refine ⟨_, rfl, 1, rfl, R, _, _, V.ref l, rfl, rfl, SqL.of (by rw [I.hR, List.map_append] <;> rfl), at_last _ _, ?_⟩
      refine ⟨.inl ⟨rfl, _, SqL.of hl⟩, ?_⟩
      refine ⟨_, rfl, _, rfl, .nm n, (i : Nat), rfl, hn', fun H4 a s4 na nl => ?_⟩
      refine ⟨l, _, _, rfl, rfl, s4 _ _ hl, sl1000 (by rw [List.length_map]; omega), ?_⟩
      obtain ⟨dx, ii, ha⟩ := nl
      exact ⟨_, _, _, _, _, _, rfl, hjr, (I.same s4).add (s4 _ _ hl) (.fig (mask_mk (I.fresh na) ha))⟩
  · rintro σ H2 ⟨st, ls, bs, v3, v4, v5, rfl, hst, I⟩
    rw [List.length_map, List.take_length] at hst
    have est : [[tr]] = st := Option.some.inj (hrun.symm.trans hst)
    subst est
    have hlb := I.lb
    have ebs : bs = [] := List.eq_nil_of_length_eq_zero (by simpa using hlb)
    subst ebs
    obtain ⟨lr, l, as, rfl, hl, hlen, hn, htr⟩ := I.last (rest := []) (ts := [tr])
    have elr : lr = [] := List.eq_nil_of_length_eq_zero (by have := I.ll; simpa using this)
    subst elr
    match as, hlen with
    | [a], _ =>
      refine ⟨_, rfl, Nat.zero_le _, fun b0 hb0 => ⟨B, b0, _, rfl, rfl, SqL.of ((Same.put hb0) _ _ I.hB), upd_same, (fun e => by rw [← e, I.hB] at hb0; cases hb0), _, rfl, ?_⟩⟩
      refine ifF rfl ?_
      have I := I.same (Same.put hb0 (o := .lst []))
      have htr' := (htr 0 a tr rfl rfl).mono (mask_same (q := fun b => H1 b ≠ none ∨ b ∈ ([] : List Addr) ++ [l]) fun b o e hp => ⟨hp, (Same.put hb0 (o := .lst [])) _ _ e⟩)
      have hl' := (Same.put hb0 (o := .lst [])) _ _ hl
      generalize upd H2 b0 (.lst []) = H3 at I htr' hl'
      refine ⟨_, rfl, R, _, 0, V.ref l, rfl, rfl, SqL.of I.hR, atI_nat (j := 0) rfl, ?_⟩
      refine q H3 l a (fun b o e => I.fr b o ((s3.trans s1) _ _ e) ?_) (I.new l (by simp)) hl' (htr'.mono (mask_same fun b o e hp => ⟨fun e0 => ?_, e⟩))
      · have h1 : b ≠ R := ne_of_none e hR0
        have h2 : b ≠ B := ne_of_none e hB0
        have h3 : b ≠ l0 := ne_of_none e hl0
        simp [h1, h2, h3]
      · refine hp (.inl ?_)
        cases e2 : H b with
        | none => exact absurd e2 e0
        | some o' =>
          rw [(s3.trans s1) _ _ e2]
          simp
end
end Mh
namespace Mh
open PySem PySem.Spec PyProof.Rows L2 TL
/-! ### the claims: two of them -/
def idx (w0 w1 wd : Cs) : Option Nat := if wd = w0 then some 0 else if wd = w1 then some 1 else none
def idxV : Option Nat → V
  | none => .non
  | some k => .int k
structure ClA (K : PySem.W.Frag) (H : Hp) (cl : Addr) (w0 w1 : Cs) : Prop where
  ex : ∃ (dc r r0 r1 q0 q1 : Addr), H cl = some (.ins (cC K) dc (clF (.ref r))) ∧ H r = some (.lst [.ref r0, .ref r1]) ∧ H r0 = some (.tup [.str (S w0), .int 0, .int 0, .ref q0]) ∧ H r1 = some (.tup [.str (S w1), .int 9, .int 0, .ref q1]) ∧
    H q0 = some (.tup [.str "seen", .int 0]) ∧ H q1 = some (.tup [.str "seen", .int 1])
  ne : w0 ≠ w1
theorem ClA.mono {K : PySem.W.Frag} {H H' : Hp} {cl : Addr} {w0 w1 : Cs} (c : ClA K H cl w0 w1) (s : Same H H') : ClA K H' cl w0 w1 := by
  obtain ⟨dc, r, r0, r1, q0, q1, h1, h2, h3, h4, h5, h6⟩ := c.ex
  exact ⟨⟨dc, r, r0, r1, q0, q1, s _ _ h1, s _ _ h2, s _ _ h3, s _ _ h4, s _ _ h5, s _ _ h6⟩, c.ne⟩
/-- the meaning of the claim: a tuple ("seen", place) -/
def MeanV (H : Hp) (k : Option Nat) (v : V) : Prop := (k = none ∧ v = .non) ∨ ∃ (n : Nat) (q : Addr), k = some n ∧ v = .ref q ∧ H q = some (.tup [.str "seen", .int n])
section
variable {P : Program} {w : World} {K : PySem.W.Frag} {mg : Str → Option Value} {base : Heap}
theorem sc_clI : FnScope ["self"] ["self"] (defScope sClaims_init) := ⟨rfl, rfl, rfl, by decide +kernel, rfl, by decide +kernel, by decide +kernel⟩
def spClI (K : PySem.W.Frag) : Sp := fun vs H Q _ => ∃ (a dx : Addr), vs = [.ref a] ∧ H a = some (.ins (cC K) dx []) ∧ ∀ l, H l = none → Q .non (upd (upd H l (.lst [])) a (.ins (cC K) dx (clF (.ref l))))
theorem ok_clI (T : Txt K mg) : CallC P w K mg base 1 "Claims" (cC K) ["self"] [] (spClI K) := by
  obtain ⟨fd, F⟩ := T.f_Claims_init
  refine ⟨_, fd, [], T.g_Claims, T.k_Claims, F.bindsN (ps := ["self"]) (fun _ _ _ _ _ _ us hl => match us, hl with | [_], _ => rfl), .nil, okN F sc_clI (fun vs H Q E h => ?_) fun cdv A outer s H vs Q E hr h => ?_⟩
  · obtain ⟨a, dx, rfl, _⟩ := h
    rfl
  obtain ⟨a, dx, rfl, ha, q⟩ := h
  refine ⟨_, pss_one (ps_fld (pv 0) (pe_lst pa_nil) rfl), ?_⟩
  refine ⟨Nat.zero_le _, fun l hl => ?_⟩
  exact ⟨_, rfl, a, _, dx, _, rfl, (Same.put hl) _ _ ha, T.c_Claims, T.n_Claims_rows, (by show 0 < 1000; decide), q l hl⟩
theorem sc_clP : FnScope ["self", "name", "at", "bits", "meaning"] ["self", "name", "at", "bits", "meaning"] (defScope sClaims_put) := ⟨rfl, rfl, rfl, by decide +kernel, rfl, by decide +kernel, by decide +kernel⟩
def spClP (K : PySem.W.Frag) : Sp := fun vs H Q _ => ∃ (a dx r q : Addr) (nm : Str) (i : Int) (rows : List V), vs = [.ref a, .str nm, .int i, .int 0, .ref q] ∧ H a = some (.ins (cC K) dx (clF (.ref r))) ∧ H r = some (.lst rows) ∧ rows.length ≤ 10 ∧
  ∀ (t : Addr) (v : V), H t = none → Q v (upd (upd H t (.tup [.str nm, .int i, .int 0, .ref q])) r (.lst (rows ++ [.ref t])))
theorem ok_clP (T : Txt K mg) : CallM P w K mg base 1 (cC K) "put" ["self", "name", "at", "bits", "meaning"] [] (spClP K) := by
  obtain ⟨fd, F⟩ := T.f_Claims_put
  refine ⟨_, fd, [], T.c_Claims, T.m_Claims_put, F.bindsN (ps := ["self", "name", "at", "bits", "meaning"]) (fun _ _ _ _ _ _ us hl => match us, hl with | [_, _, _, _, _], _ => rfl), .nil, okN F sc_clP (fun vs H Q E h => ?_) fun cdv A outer s H vs Q E hr h => ?_⟩
  · obtain ⟨a, dx, r, q, nm, i, rows, rfl, _⟩ := h
    rfl
  obtain ⟨a, dx, r, q, nm, i, rows, rfl, ha, hrw, hlen, k⟩ := h
  refine ⟨_, pss_cons (ps_expr (pe_bm PySem.F.plainAttrs_list PySem.F.slot_list_append PySem.F.type_list_append mt_append (pe_fld (pv 0) rfl) (pa_cons (pe_tup (pa_cons (pv 1) (pa_cons (pv 2) (pa_cons (pv 3) (pa_cons (pv 4) pa_nil))))) pa_nil)))
    (pss_one (ps_ret (pe_op op_sub (pe_callB call_len_seq (by rfl) T.z_len PySem.boot_len (pa_cons (pe_fld (pv 0) rfl) pa_nil)) pe_int))), ?_⟩
  refine ⟨_, rfl, a, _, dx, _, _, rfl, ha, T.c_Claims, T.n_Claims_rows, cl_rows, .inl ⟨rfl, _, SqL.of hrw⟩, _, rfl, _, rfl, _, rfl, _, rfl, (by show 4 ≤ sizeLine; decide), fun t ht => ?_⟩
  have s1 : Same H (upd H t (.tup [.str nm, .int i, .int 0, .ref q])) := Same.put ht
  refine ⟨r, _, _, rfl, rfl, s1 _ _ hrw, sl1000 (by omega), ?_⟩
  have nar : a ≠ r := ne_of ha hrw (by intro z; cases z)
  refine ⟨_, rfl, a, _, dx, _, _, rfl, (upd_ne nar).trans (s1 _ _ ha), T.c_Claims, T.n_Claims_rows, cl_rows, r, _, rfl, .inl (SqL.of upd_same), _, _, rfl, rfl, k t _ ht⟩
theorem sc_clO : FnScope ["self", "name", "bits", "number", "row"] ["self", "name", "bits"] (defScope sClaims_open_to) := ⟨rfl, rfl, rfl, by decide +kernel, rfl, by decide +kernel, by decide +kernel⟩
def spClO (K : PySem.W.Frag) : Sp := fun vs H Q _ => ∃ (a : Addr) (w0 w1 wd : Cs), vs = [.ref a, .str (S wd), .int 0] ∧ ClA K H a w0 w1 ∧
  ∀ (H' : Hp) (p : Addr), Same H H' → H p = none → H' p = some (.lst ((idx w0 w1 wd).toList.map fun k => V.int (k : Nat))) → Q (.ref p) H'
theorem ok_clO (T : Txt K mg) : CallM P w K mg base 2 (cC K) "open_to" ["self", "name", "bits"] [] (spClO K) := by
  obtain ⟨fd, F⟩ := T.f_Claims_open_to
  refine ⟨_, fd, [], T.c_Claims, T.m_Claims_open_to, F.bindsN (ps := ["self", "name", "bits"]) (fun _ _ _ _ _ _ us hl => match us, hl with | [_, _, _], _ => rfl), .nil, okN F sc_clO (fun vs H Q E h => ?_) fun cdv A outer s H vs Q E hr h => ?_⟩
  · obtain ⟨a, w0, w1, wd, rfl, _⟩ := h
    rfl
  obtain ⟨a, w0, w1, wd, rfl, hc, k⟩ := h
  refine ⟨_, pss_one (ps_ret (pe_lc (own := [("number", 3), ("row", 4)]) (g := gTup K 2 (gCons (gName 3) (gCons (gName 4) gNil)))
    (tt := tAnd (tTest (tOp rEq (tOp (rIxT K) (tVar 4) (tC (.int 0))) (tVar 1))) (tB (tCall spWithin [] E0 (tCons (tOp (rIxT K) (tVar 4) (tC (.int 2))) (tCons (tVar 2) tNil))))) (te := tVar 3) rfl sc_clO.nd
    (pi_enum (by rfl) T.z_enumerate (pa_cons (pe_fld (pv 0) rfl) pa_nil)) (blkOk_by (own := [("number", 3), ("row", 4)]) (N := ["self", "name", "bits", "number", "row"]) (sc := defScope sClaims_open_to) (by decide +kernel))
    (fun _ _ _ _ _ => pg_tup rfl (pgs_cons (pg_name (i := 3) sc_clO.nd rfl (Or.inl rfl)) (pgs_cons (pg_name (i := 4) sc_clO.nd rfl (Or.inl rfl)) pgs_nil)))
    (fun _ _ _ _ _ => pts_one (PW.pt (pw_and (pt_cmpR op_eq (pe_ix ix_tup (pv 4) pe_int (fun _ _ => rfl)) (pv 1) (nomark _)) (pw_and1 (pt_val (pf (ok_within T) hr (by rfl) (pa_cons (pe_ix ix_tup (pv 4) pe_int (fun _ _ => rfl)) (pa_cons (pv 2) pa_nil))))))))
    (fun _ _ _ _ _ => pv 3))), ?_⟩
  obtain ⟨dc, r, r0, r1, q0, q1, h1, h2, h3, h4, h5, h6⟩ := hc.ex
  refine ⟨_, rfl, a, _, dc, _, _, rfl, h1, T.c_Claims, T.n_Claims_rows, cl_rows, r, _, rfl, SqL.of h2, fun D hD => ?_⟩
  refine lc_it (walk_enum (K := K) (a := r) (xs := [.ref r0, .ref r1])) (fun i H' => Same H H' ∧ H' D = some (.lst (((idx w0 w1 wd).toList.filter (· < i)).map fun k => V.int (k : Nat)))) ⟨Same.put hD, ?_⟩ ?_ ?_ ?_
  · rw [upd_same]
    have e : (idx w0 w1 wd).toList.filter (· < 0) = [] := by
      rw [List.filter_eq_nil_iff]
      intro x _
      simp
    rw [e] <;> rfl
  · rintro i H' _ ⟨s1, _⟩
    exact SqL.of (s1 _ _ h2)
  · rintro i x H1 H2 hi ⟨s1, hacc⟩ ⟨Tp, xi, y, rfl, hT, rfl, exi, ey⟩
    have exi' : xi = .int (i : Nat) := (Option.some.inj exi).symm
    subst exi'
    have s2 : Same H1 (upd H1 Tp (.tup [.int (i : Nat), y])) := Same.put hT
    have hT2 : upd H1 Tp (.tup [.int (i : Nat), y]) Tp = some (.tup [.int (i : Nat), y]) := upd_same
    have hacc2 := s2 _ _ hacc
    have s12 := s1.trans s2
    generalize upd H1 Tp (.tup [.int (i : Nat), y]) = H3 at s12 hT2 hacc2
    -- what the i-th row says
    obtain ⟨rr, wi, ii, qi, ey', erow⟩ : ∃ (rr : Addr) (wi : Cs) (ii : Int) (qi : Addr), y = .ref rr ∧ H rr = some (.tup [.str (S wi), .int ii, .int 0, .ref qi]) ∧ ((i = 0 ∧ wi = w0) ∨ (i = 1 ∧ wi = w1)) := by
      match i, hi, ey with
      | 0, _, ey => exact ⟨r0, w0, 0, q0, (Option.some.inj ey).symm, h3, .inl ⟨rfl, rfl⟩⟩
      | 1, _, ey => exact ⟨r1, w1, 9, q1, (Option.some.inj ey).symm, h4, .inr ⟨rfl, rfl⟩⟩
    obtain ⟨erow, ewi⟩ := erow
    subst ey'
    have hrow := s12 _ _ erow
    refine ⟨Tp, _, rfl, SqT.of hT2, rfl, _, _, rfl, _, _, rfl, rfl, rfl, ?_⟩
    refine ⟨_, rfl, rr, _, 0, _, rfl, rfl, SqT.of hrow, atI_nat (j := 0) rfl, _, rfl, scal_str, _, rfl, ?_⟩
    have key : (idx w0 w1 wd).toList.filter (· < i + 1) = (idx w0 w1 wd).toList.filter (· < i) ++ (if wi = wd then [i] else []) := by
      have hne := hc.ne
      unfold idx
      rcases ewi with ⟨hi0, hwi⟩ | ⟨hi0, hwi⟩
      · subst hi0
        by_cases e0 : wd = w0
        · rw [if_pos e0, if_pos (show wi = wd from hwi.trans e0.symm)]; rfl
        · rw [if_neg e0, if_neg (show ¬ wi = wd from fun z => e0 (z.symm.trans hwi))]
          by_cases e1 : wd = w1
          · rw [if_pos e1]; rfl
          · rw [if_neg e1]; rfl
      · subst hi0
        by_cases e0 : wd = w0
        · rw [if_pos e0, if_neg (show ¬ wi = wd from fun z => hne (e0.symm.trans (z.symm.trans hwi)))]; rfl
        · rw [if_neg e0]
          by_cases e1 : wd = w1
          · rw [if_pos e1, if_pos (show wi = wd from hwi.trans e1.symm)]; rfl
          · rw [if_neg e1, if_neg (show ¬ wi = wd from fun z => e1 (z.symm.trans hwi))]; rfl
    by_cases he : wi = wd
    · refine ifT (by rw [dec_S]; exact decide_eq_true he) ?_
      refine ⟨_, rfl, rr, _, 2, _, rfl, rfl, SqT.of hrow, atI_nat (j := 2) rfl, _, rfl, rfl, _, rfl, ?_⟩
      refine ifT rfl ?_
      refine ⟨_, rfl, _, hacc2, sl1000 ?_, ?_, ?_⟩
      · rw [List.length_map]
        have h1 := List.length_filter_le (· < i) (idx w0 w1 wd).toList
        have h2 : (idx w0 w1 wd).toList.length ≤ 1 := by cases idx w0 w1 wd <;> simp
        omega
      · intro b o e
        rw [upd_ne (ne_of_none e hD)]
        exact s12 _ _ e
      · rw [upd_same, key, if_pos he, List.map_append] <;> rfl
    · refine ifF (by rw [dec_S]; exact decide_eq_false he) ?_
      refine ifF rfl ?_
      refine ⟨s12, ?_⟩
      rw [hacc2, key, if_neg he, List.append_nil]
  · rintro H' ⟨s1, hacc⟩
    refine k H' D s1 hD ?_
    rw [hacc]
    have e : (idx w0 w1 wd).toList.filter (· < [V.ref r0, V.ref r1].length) = (idx w0 w1 wd).toList := by
      rw [List.filter_eq_self]
      intro x hx
      unfold idx at hx
      split at hx
      · have : x = 0 := by simpa using hx
        subst this; rfl
      · split at hx
        · have : x = 1 := by simpa using hx
          subst this; rfl
        · cases hx
    rw [e]
end
end Mh
namespace Mh
open PySem PySem.Spec PyProof.Rows L2 TL
section
variable {P : Program} {w : World} {K : PySem.W.Frag} {mg : Str → Option Value} {base : Heap}
/-! ### Claims.is_under, claim_of -/
theorem sc_clU : FnScope ["self", "number", "some", "mine", "other", "bits"] ["self", "number", "some"] (defScope sClaims_is_under) := ⟨rfl, rfl, rfl, by decide +kernel, rfl, by decide +kernel, by decide +kernel⟩
def spClU (K : PySem.W.Frag) : Sp := fun vs H Q _ => ∃ (a s : Addr) (w0 w1 : Cs) (k : Int) (ns : List Int), vs = [.ref a, .int k, .ref s] ∧ ClA K H a w0 w1 ∧ (k = 0 ∨ k = 1) ∧ H s = some (.lst (ns.map V.int)) ∧ (∀ n ∈ ns, n = 0 ∨ n = 1) ∧ Q (.bl false) H
theorem ok_clU (T : Txt K mg) : CallM P w K mg base 2 (cC K) "is_under" ["self", "number", "some"] [] (spClU K) := by
  obtain ⟨fd, F⟩ := T.f_Claims_is_under
  refine ⟨_, fd, [], T.c_Claims, T.m_Claims_is_under, F.bindsN (ps := ["self", "number", "some"]) (fun _ _ _ _ _ _ us hl => match us, hl with | [_, _, _], _ => rfl), .nil, okN F sc_clU (fun vs H Q E h => ?_) fun cdv A outer s H vs Q E hr h => ?_⟩
  · obtain ⟨a, s, w0, w1, k, ns, rfl, _⟩ := h
    rfl
  obtain ⟨a, sm, w0, w1, k, ns, rfl, hc, hk, hs, hns, q⟩ := h
  refine ⟨_, pss_cons (ps_set (i := 3) sc_clU.nd rfl (Or.inl rfl) (pe_ix ix_tup (pe_ix ix_list (pe_fld (pv 0) rfl) (pv 1) (fun _ _ => rfl)) pe_int (fun _ _ => rfl)))
    (pss_cons (ps_for PassesOwn.never rfl (pi_list (pv 2)) (pg_name (i := 4) sc_clU.nd rfl (Or.inl rfl))
      (pss_cons (ps_set (i := 5) sc_clU.nd rfl (Or.inl rfl) (pe_ix ix_tup (pe_ix ix_list (pe_fld (pv 0) rfl) (pv 4) (fun _ _ => rfl)) pe_int (fun _ _ => rfl)))
      (pss_one (ps_if (PW.pt (pw_and (pt_cmpR op_ne (pv 5) (pv 3) (nomark _)) (pw_and1 (pt_val (pf (ok_within T) hr (by rfl) (pa_cons (pv 3) (pa_cons (pv 5) pa_nil))))))) (pss_one (ps_ret pe_bl)) pss_nil))))
    (pss_one (ps_ret pe_bl))), ?_⟩
  obtain ⟨dc, r, r0, r1, q0, q1, h1, h2, h3, h4, h5, h6⟩ := hc.ex
  have row : ∀ n : Int, (n = 0 ∨ n = 1) → ∃ (rr : Addr) (x y z : V), atI [V.ref r0, V.ref r1] n = some (.ref rr) ∧ H rr = some (.tup [x, y, .int 0, z]) := by
    rintro n (rfl | rfl)
    · exact ⟨r0, _, _, _, atI_nat (j := 0) rfl, h3⟩
    · exact ⟨r1, _, _, _, atI_nat (j := 1) rfl, h4⟩
  obtain ⟨rr, x, y, z, e1, e2⟩ := row k hk
  refine ⟨_, rfl, a, _, dc, _, _, rfl, h1, T.c_Claims, T.n_Claims_rows, cl_rows, _, rfl, r, _, k, _, rfl, rfl, SqL.of h2, e1, rr, _, 2, _, rfl, rfl, SqT.of e2, atI_nat (j := 2) rfl, ?_⟩
  refine ⟨_, rfl, sm, rfl, ⟨_, SqL.of hs⟩, for_list (K := K) (a := sm) (xs := ns.map V.int) (fun i σ H' => ∃ v4 v5 : Option V, σ = [some (.ref a), some (.int k), some (.ref sm), some (.int 0), v4, v5] ∧ H' = H) ⟨_, _, rfl, rfl⟩ ?_ ?_ ?_⟩
  · rintro i σ H' _ ⟨v4, v5, rfl, rfl⟩
    exact SqL.of hs
  · rintro i x' σ H' hi ⟨v4, v5, rfl, rfl⟩
    rw [List.getElem?_map] at hi
    obtain ⟨n, hn, rfl⟩ := Option.map_eq_some_iff.mp hi
    obtain ⟨rr', x1, y1, z1, e3, e4⟩ := row n (hns n (List.mem_of_getElem? hn))
    refine ⟨_, rfl, a, _, dc, _, _, rfl, h1, T.c_Claims, T.n_Claims_rows, cl_rows, _, rfl, r, _, n, _, rfl, rfl, SqL.of h2, e3, rr', _, 2, _, rfl, rfl, SqT.of e4, atI_nat (j := 2) rfl, ?_⟩
    refine ⟨_, rfl, _, rfl, rfl, _, rfl, ?_⟩
    refine ifF rfl ?_
    refine ifF rfl ?_
    exact ⟨_, _, rfl, rfl⟩
  · rintro σ H' ⟨v4, v5, rfl, rfl⟩
    exact q
theorem sc_clF : FnScope ["self", "name", "bits", "some", "tops", "number"] ["self", "name", "bits"] (defScope sClaims_claim_of) := ⟨rfl, rfl, rfl, by decide +kernel, rfl, by decide +kernel, by decide +kernel⟩
def spClF (K : PySem.W.Frag) : Sp := fun vs H Q _ => ∃ (a : Addr) (w0 w1 wd : Cs), vs = [.ref a, .str (S wd), .int 0] ∧ ClA K H a w0 w1 ∧ ∀ H' : Hp, Same H H' → Q (idxV (idx w0 w1 wd)) H'
theorem idx_01 {w0 w1 wd : Cs} {k : Nat} (h : idx w0 w1 wd = some k) : k = 0 ∨ k = 1 := by
  unfold idx at h
  split at h
  · exact .inl (Option.some.inj h).symm
  · split at h
    · exact .inr (Option.some.inj h).symm
    · cases h
theorem ok_clF (T : Txt K mg) : CallM P w K mg base 3 (cC K) "claim_of" ["self", "name", "bits"] [] (spClF K) := by
  obtain ⟨fd, F⟩ := T.f_Claims_claim_of
  refine ⟨_, fd, [], T.c_Claims, T.m_Claims_claim_of, F.bindsN (ps := ["self", "name", "bits"]) (fun _ _ _ _ _ _ us hl => match us, hl with | [_, _, _], _ => rfl), .nil, okN F sc_clF (fun vs H Q E h => ?_) fun cdv A outer s H vs Q E hr h => ?_⟩
  · obtain ⟨a, w0, w1, wd, rfl, _⟩ := h
    rfl
  obtain ⟨a, w0, w1, wd, rfl, hc, q⟩ := h
  refine ⟨_, pss_cons (ps_set (i := 3) sc_clF.nd rfl (Or.inr rfl) (pm (ok_clO T) (pv 0) hr (pa_cons (pv 1) (pa_cons (pv 2) pa_nil))))
    (pss_cons (ps_if (pt_cmpR (op_eq_nil (hu1 hr)) (pv 3) (pe_lst pa_nil) (nomark _)) (pss_one (ps_ret pe_non)) pss_nil)
    (pss_cons (ps_setLc (i := 4) (own := [("number", 5)]) (g := gName 5) (tt := tNot (tB (tMeth (cC K) "is_under" (spClU K) [] E0 (tVar 0) (tCons (tVar 5) (tCons (tVar 3) tNil))))) (te := tVar 5) rfl sc_clF.nd rfl rfl (sw_true rfl rfl rfl (by decide +kernel)) (pi_list (pv 3))
      (blkOk_by (own := [("number", 5)]) (N := ["self", "name", "bits", "some", "tops", "number"]) (sc := defScope sClaims_claim_of) (by decide +kernel)) (fun _ _ _ _ _ => pg_name (i := 5) sc_clF.nd rfl (Or.inl rfl))
      (fun _ _ _ _ _ => pts_one (pt_not (pt_val (pm (ok_clU T) (pv 0) hr (pa_cons (pv 5) (pa_cons (pv 3) pa_nil)))))) (fun _ _ _ _ _ => pv 5))
    (pss_cons (ps_if (pt_cmpR op_gt (pe_callB call_len_seq (by rfl) T.z_len PySem.boot_len (pa_cons (pv 4) pa_nil)) pe_int (nomark _)) (pss_one ps_never) pss_nil)
    (pss_one (ps_ret (pe_ix ix_list (pv 4) pe_int (fun _ _ => rfl))))))), ?_⟩
  obtain ⟨dc, r, r0, r1, q0, q1, h1, h2, h3, h4, h5, h6⟩ := id hc.ex
  refine ⟨_, rfl, a, dc, _, rfl, h1, cl_open, _, rfl, _, rfl, a, w0, w1, wd, rfl, hc, fun H1 p s1 hp e1 => ?_⟩
  have npa : p ≠ a := fun e => by rw [e, h1] at hp; cases hp
  refine ⟨_, rfl, Nat.zero_le _, fun b hb => ⟨p, b, _, rfl, rfl, SqL.of ((Same.put hb) _ _ e1), upd_same, (fun e => by rw [← e, e1] at hb; cases hb), _, rfl, ?_⟩⟩
  have s2 : Same H (upd H1 b (.lst [])) := s1.trans (Same.put hb)
  have e2 := (Same.put hb (o := .lst [])) _ _ e1
  generalize upd H1 b (.lst []) = H2 at s2 e2
  cases hx : idx w0 w1 wd with
  | none =>
    rw [hx] at e2 q
    refine ifT rfl ?_
    exact q H2 s2
  | some k =>
    rw [hx] at e2 q
    refine ifF rfl ?_
    have e2' : H2 p = some (.lst [V.int (k : Nat)]) := e2
    refine ⟨_, rfl, p, rfl, ⟨_, SqL.of e2'⟩, fun D hD => ?_⟩
    have hc2 := hc.mono s2
    refine lc_list (K := K) (a := p) (xs := [V.int (k : Nat)]) (fun i H' => H' = upd H2 D (.lst ([V.int (k : Nat)].take i))) rfl ?_ ?_ ?_
    · rintro i H' _ rfl
      exact (Same.put hD).seq (SqL.of e2')
    · rintro i x H' hi rfl
      match i, hi with
      | 0, hi =>
        have ex : V.int (k : Nat) = x := Option.some.inj hi
        subst ex
        have s3 : Same H2 (upd H2 D (.lst [])) := Same.put hD
        refine ⟨rfl, _, rfl, a, dc, _, rfl, s3 _ _ (s2 _ _ h1), cl_under, _, rfl, _, rfl, a, p, w0, w1, (k : Nat), [(k : Int)], rfl, hc2.mono s3, ?_, s3 _ _ e2', ?_, _, rfl, ?_⟩
        · rcases idx_01 hx with rfl | rfl
          · exact .inl rfl
          · exact .inr rfl
        · intro n hn
          rw [List.mem_singleton.mp hn]
          rcases idx_01 hx with rfl | rfl
          · exact .inl rfl
          · exact .inr rfl
        · refine ifT rfl ?_
          refine ⟨_, rfl, _, upd_same, (by show 0 < sizeLine; decide), ?_⟩
          rw [upd_upd] <;> rfl
      | i + 1, hi => simp at hi
    · rintro H' rfl
      have hD2 : upd H2 D (.lst ([V.int (k : Nat)].take [V.int (k : Nat)].length)) D = some (.lst [V.int (k : Nat)]) := upd_same
      have s3 : Same H (upd H2 D (.lst ([V.int (k : Nat)].take [V.int (k : Nat)].length))) := s2.trans (Same.put hD)
      generalize upd H2 D (.lst ([V.int (k : Nat)].take [V.int (k : Nat)].length)) = H3 at hD2 s3
      refine ⟨_, rfl, D, _, rfl, .inl (SqL.of hD2), _, _, rfl, rfl, _, rfl, ?_⟩
      refine ifF rfl ?_
      exact ⟨_, rfl, D, _, 0, _, rfl, rfl, SqL.of hD2, atI_nat (j := 0) rfl, q H3 s3⟩
end
end Mh
namespace Mh
open PySem PySem.Spec PyProof.Rows L2 TL
/-! ### the maker's fields as they come -/
def mkN : List Str := ["most", "claims", "macros", "stretches", "steps", "asked", "roots", "waiting", "places", "tops"]
def mkZ (vs : List V) : List (Str × V) := mkN.zip vs
theorem mkz_len {vs : List V} (h : vs.length ≤ 10) : (mkZ vs).length < 1000 := by
  unfold mkZ
  rw [List.length_zip]
  omega
theorem mkz_nil : ([] : List (Str × V)) = mkZ [] := rfl
theorem mkz_0 {v0 : V} : putF ("most" : Str) v0 (mkZ []) = mkZ [v0] := by kernel_rfl
theorem mkz_1 {v0 v1 : V} : putF ("claims" : Str) v1 (mkZ [v0]) = mkZ [v0, v1] := by kernel_rfl
theorem mkz_2 {v0 v1 v2 : V} : putF ("macros" : Str) v2 (mkZ [v0, v1]) = mkZ [v0, v1, v2] := by kernel_rfl
theorem mkz_3 {v0 v1 v2 v3 : V} : putF ("stretches" : Str) v3 (mkZ [v0, v1, v2]) = mkZ [v0, v1, v2, v3] := by kernel_rfl
theorem mkz_4 {v0 v1 v2 v3 v4 : V} : putF ("steps" : Str) v4 (mkZ [v0, v1, v2, v3]) = mkZ [v0, v1, v2, v3, v4] := by kernel_rfl
theorem mkz_5 {v0 v1 v2 v3 v4 v5 : V} : putF ("asked" : Str) v5 (mkZ [v0, v1, v2, v3, v4]) = mkZ [v0, v1, v2, v3, v4, v5] := by kernel_rfl
theorem mkz_6 {v0 v1 v2 v3 v4 v5 v6 : V} : putF ("roots" : Str) v6 (mkZ [v0, v1, v2, v3, v4, v5]) = mkZ [v0, v1, v2, v3, v4, v5, v6] := by kernel_rfl
theorem mkz_7 {v0 v1 v2 v3 v4 v5 v6 v7 : V} : putF ("waiting" : Str) v7 (mkZ [v0, v1, v2, v3, v4, v5, v6]) = mkZ [v0, v1, v2, v3, v4, v5, v6, v7] := by kernel_rfl
theorem mkz_8 {v0 v1 v2 v3 v4 v5 v6 v7 v8 : V} : putF ("places" : Str) v8 (mkZ [v0, v1, v2, v3, v4, v5, v6, v7]) = mkZ [v0, v1, v2, v3, v4, v5, v6, v7, v8] := by kernel_rfl
theorem mkz_9 {v0 v1 v2 v3 v4 v5 v6 v7 v8 v9 : V} : putF ("tops" : Str) v9 (mkZ [v0, v1, v2, v3, v4, v5, v6, v7, v8]) = mkZ [v0, v1, v2, v3, v4, v5, v6, v7, v8, v9] := by kernel_rfl
theorem mkz_all {cl a1 a2 a3 ak rt wt p t : V} : mkZ [.int 40, cl, a1, a2, a3, ak, rt, wt, p, t] = mkF cl a1 a2 a3 ak rt wt p t := rfl
/-- a field of m is set to a new object -/
theorem put_new {C : Addr} {H Hc : Hp} {m dx l : Addr} {o : HO} {fs fs' : List (Str × V)} (fr : Fr [m] H Hc) (hm : Hc m = some (.ins C dx fs)) (hl : Hc l = none) :
    Fr [m] H (upd (upd Hc l o) m (.ins C dx fs')) ∧ upd (upd Hc l o) m (.ins C dx fs') m = some (.ins C dx fs') ∧ upd (upd Hc l o) m (.ins C dx fs') l = some o ∧
    ∀ b u, Hc b = some u → b ≠ m → upd (upd Hc l o) m (.ins C dx fs') b = some u := by
  have lm : l ≠ m := fun e => by rw [e, hm] at hl; cases hl
  refine ⟨fun b u e hb => ?_, upd_same, by rw [upd_ne lm, upd_same], fun b u e hb => ?_⟩
  · have h1 : b ≠ m := fun z => hb (by rw [z]; simp)
    have h2 := fr b u e hb
    rw [upd_ne h1, upd_ne (ne_of_none h2 hl)]
    exact h2
  · rw [upd_ne hb, upd_ne (ne_of_none e hl)]
    exact e
theorem claims_new {K : PySem.W.Frag} {H0 : Hp} {cl dc r : Addr} (h1 : H0 cl = none) (h2 : H0 dc = none) (h3 : dc ≠ cl) (h4 : upd (upd H0 dc (.own cl)) cl (.ins (cC K) dc []) r = none) :
    Same H0 (upd (upd (upd (upd H0 dc (.own cl)) cl (.ins (cC K) dc [])) r (.lst [])) cl (.ins (cC K) dc (clF (.ref r)))) ∧ upd (upd (upd (upd H0 dc (.own cl)) cl (.ins (cC K) dc [])) r (.lst [])) cl (.ins (cC K) dc (clF (.ref r))) cl = some (.ins (cC K) dc (clF (.ref r))) ∧
    upd (upd (upd (upd H0 dc (.own cl)) cl (.ins (cC K) dc [])) r (.lst [])) cl (.ins (cC K) dc (clF (.ref r))) r = some (.lst []) ∧ H0 r = none := by
  have rc : r ≠ cl := fun e => by rw [e, upd_same] at h4; cases h4
  have rd : r ≠ dc := fun e => by rw [e, upd_ne h3, upd_same] at h4; cases h4
  have r0 : H0 r = none := by rw [upd_ne rc, upd_ne rd] at h4; exact h4
  refine ⟨fun b o e => ?_, upd_same, by rw [upd_ne rc, upd_same], r0⟩
  rw [upd_ne (ne_of_none e h1), upd_ne (ne_of_none e r0), upd_ne (ne_of_none e h1), upd_ne (ne_of_none e h2)]
  exact e
section
variable {P : Program} {w : World} {K : PySem.W.Frag} {mg : Str → Option Value} {base : Heap}
/-! ### Maker.__init__ -/
theorem sc_mkI : FnScope ["self", "most"] ["self", "most"] (defScope sMaker_init) := ⟨rfl, rfl, rfl, by decide +kernel, rfl, by decide +kernel, by decide +kernel⟩
/-- a new maker at m: its claims, the lists of rows, of what was asked, of roots, of what waits -/
structure MkNew (K : PySem.W.Frag) (H : Hp) (m dx cl dc r a1 a2 a3 ak rt wt : Addr) (p : Int) (rows xs ys : List V) : Prop where
  eob : H m = some (.ins (cM K) dx (mkF (.ref cl) (.ref a1) (.ref a2) (.ref a3) (.ref ak) (.ref rt) (.ref wt) (.int p) (.int p)))
  ecl : H cl = some (.ins (cC K) dc (clF (.ref r)))
  er : H r = some (.lst rows)
  eak : H ak = some (.lst [])
  ert : H rt = some (.lst xs)
  ewt : H wt = some (.lst ys)
  nd : [r, ak, rt, wt].Nodup
def spMkI (K : PySem.W.Frag) : Sp := fun vs H Q _ => ∃ (m dx : Addr), vs = [.ref m, .int 40] ∧ H m = some (.ins (cM K) dx []) ∧
  ∀ (H' : Hp) (cl dc r a1 a2 a3 ak rt wt : Addr), Fr [m] H H' → MkNew K H' m dx cl dc r a1 a2 a3 ak rt wt 0 [] [] [] → (∀ b ∈ [cl, r, ak, rt, wt], H b = none) → Q .non H'
theorem ok_mkI (T : Txt K mg) : CallC P w K mg base 3 "Maker" (cM K) ["self", "most"] [.int 40] (spMkI K) := by
  obtain ⟨fd, F⟩ := T.f_Maker_init
  obtain ⟨ds, hd, hb⟩ := F.binds1 (ps := ["self", "most"]) 1 0 (by simp) rfl fun Tt kV doc pm an cdv ct us its hu hi => match us, its, hu, hi with | [_], [_], _, _ => ⟨_, rfl, rfl⟩
  refine ⟨_, fd, ds, T.g_Maker, T.k_Maker, hb, hd, okN F sc_mkI (fun vs H Q E h => ?_) fun cdv A outer s H vs Q E hr h => ?_⟩
  · obtain ⟨m, dx, rfl, _⟩ := h
    rfl
  obtain ⟨m, dx, rfl, hm, q⟩ := h
  refine ⟨_, pss_cons (ps_fld (pv 0) (pv 1) rfl) (pss_cons (ps_fld (pv 0) (pc0 (ok_clI T) hr (by rfl)) rfl) (pss_cons (ps_fld (pv 0) (pe_lst pa_nil) rfl) (pss_cons (ps_fld (pv 0) (pe_lst pa_nil) rfl) (pss_cons (ps_fld (pv 0) (pe_lst pa_nil) rfl)
    (pss_cons (ps_fld (pv 0) (pe_lst pa_nil) rfl) (pss_cons (ps_fld (pv 0) (pe_lst pa_nil) rfl) (pss_cons (ps_fld (pv 0) (pe_lst pa_nil) rfl) (pss_cons (ps_fld (pv 0) pe_int rfl) (pss_one (ps_fld (pv 0) pe_int rfl)))))))))), ?_⟩
  rw [mkz_nil] at hm
  -- most
  refine ⟨_, rfl, _, rfl, m, _, dx, _, rfl, hm, T.c_Maker, T.n_Maker_most, mkz_len (by simp), ?_⟩
  rw [mkz_0]
  have fr0 : Fr [m] H (upd H m (.ins (cM K) dx (mkZ [.int 40]))) := Fr.put (.inl (by simp))
  have m0 : upd H m (.ins (cM K) dx (mkZ [.int 40])) m = some (.ins (cM K) dx (mkZ [.int 40])) := upd_same
  generalize upd H m (.ins (cM K) dx (mkZ [.int 40])) = H0 at fr0 m0
  -- claims
  intro cl dc ncl ndc nex
  refine ⟨cl, dc, rfl, upd_same, fun r hr0 => ⟨rfl, ?_⟩⟩
  obtain ⟨sc, ecl, er, r0⟩ := claims_new (K := K) ncl ndc nex hr0
  have fr1 := fr0.trans (Fr.of_same (L := [m]) sc)
  have m1 := sc _ _ m0
  have fcl : H cl = none := by
    cases e : H cl with
    | none => rfl
    | some o =>
      by_cases h : cl = m
      · rw [h, m0] at ncl; cases ncl
      · rw [fr0 cl o e (by simpa using h)] at ncl; cases ncl
  have frr : H r = none := by
    cases e : H r with
    | none => rfl
    | some o =>
      by_cases h : r = m
      · rw [h, m0] at r0; cases r0
      · rw [fr0 r o e (by simpa using h)] at r0; cases r0
  have ncm : cl ≠ m := fun e => by rw [e, m0] at ncl; cases ncl
  have nrm : r ≠ m := fun e => by rw [e, m0] at r0; cases r0
  show tVar 0 _ (upd (upd (upd (upd H0 dc (.own cl)) cl (.ins (cC K) dc [])) r (.lst [])) cl (.ins (cC K) dc (clF (.ref r)))) _
  generalize upd (upd (upd (upd H0 dc (.own cl)) cl (.ins (cC K) dc [])) r (.lst [])) cl (.ins (cC K) dc (clF (.ref r))) = H1 at fr1 m1 ecl er
  have free : ∀ {Hc : Hp} {l : Addr} {fs : List (Str × V)}, Fr [m] H Hc → Hc m = some (.ins (cM K) dx fs) → Hc l = none → H l = none := fun {Hc l fs} f e n => by
    cases e2 : H l with
    | none => rfl
    | some o =>
      by_cases h : l = m
      · rw [h, e] at n; cases n
      · rw [f l o e2 (by simpa using h)] at n; cases n
  refine ⟨_, rfl, m, _, dx, _, rfl, m1, T.c_Maker, T.n_Maker_claims, mkz_len (by simp), ?_⟩
  rw [mkz_1]
  have fr2 : Fr [m] H (upd H1 m (.ins (cM K) dx (mkZ [.int 40, .ref cl]))) := fr1.trans (Fr.put (.inl (by simp)))
  have m2 : upd H1 m (.ins (cM K) dx (mkZ [.int 40, .ref cl])) m = some (.ins (cM K) dx (mkZ [.int 40, .ref cl])) := upd_same
  have ecl2 := (upd_ne ncm (H := H1) (o := .ins (cM K) dx (mkZ [.int 40, .ref cl]))).trans ecl
  have er2 := (upd_ne nrm (H := H1) (o := .ins (cM K) dx (mkZ [.int 40, .ref cl]))).trans er
  generalize upd H1 m (.ins (cM K) dx (mkZ [.int 40, .ref cl])) = H2 at fr2 m2 ecl2 er2
  -- macros, stretches, steps
  refine ⟨Nat.zero_le _, fun a1 h1 => ⟨_, rfl, m, _, dx, _, rfl, (Same.put h1) _ _ m2, T.c_Maker, T.n_Maker_macros, mkz_len (by simp), ?_⟩⟩
  rw [mkz_2]
  obtain ⟨fr3, m3, _, k3⟩ := put_new (o := .lst []) (fs' := mkZ [.int 40, .ref cl, .ref a1]) fr2 m2 h1
  have ecl3 := k3 _ _ ecl2 ncm
  have er3 := k3 _ _ er2 nrm
  generalize upd (upd H2 a1 (.lst [])) m (.ins (cM K) dx (mkZ [.int 40, .ref cl, .ref a1])) = H3 at fr3 m3 ecl3 er3
  refine ⟨Nat.zero_le _, fun a2 h2 => ⟨_, rfl, m, _, dx, _, rfl, (Same.put h2) _ _ m3, T.c_Maker, T.n_Maker_stretches, mkz_len (by simp), ?_⟩⟩
  rw [mkz_3]
  obtain ⟨fr4, m4, _, k4⟩ := put_new (o := .lst []) (fs' := mkZ [.int 40, .ref cl, .ref a1, .ref a2]) fr3 m3 h2
  have ecl4 := k4 _ _ ecl3 ncm
  have er4 := k4 _ _ er3 nrm
  generalize upd (upd H3 a2 (.lst [])) m (.ins (cM K) dx (mkZ [.int 40, .ref cl, .ref a1, .ref a2])) = H4 at fr4 m4 ecl4 er4
  refine ⟨Nat.zero_le _, fun a3 h3 => ⟨_, rfl, m, _, dx, _, rfl, (Same.put h3) _ _ m4, T.c_Maker, T.n_Maker_steps, mkz_len (by simp), ?_⟩⟩
  rw [mkz_4]
  obtain ⟨fr5, m5, _, k5⟩ := put_new (o := .lst []) (fs' := mkZ [.int 40, .ref cl, .ref a1, .ref a2, .ref a3]) fr4 m4 h3
  have ecl5 := k5 _ _ ecl4 ncm
  have er5 := k5 _ _ er4 nrm
  generalize upd (upd H4 a3 (.lst [])) m (.ins (cM K) dx (mkZ [.int 40, .ref cl, .ref a1, .ref a2, .ref a3])) = H5 at fr5 m5 ecl5 er5
  -- asked, roots, waiting
  refine ⟨Nat.zero_le _, fun ak h4 => ⟨_, rfl, m, _, dx, _, rfl, (Same.put h4) _ _ m5, T.c_Maker, T.n_Maker_asked, mkz_len (by simp), ?_⟩⟩
  rw [mkz_5]
  have fak := free fr5 m5 h4
  have nakr : r ≠ ak := ne_of_none er5 h4
  have nakm : ak ≠ m := fun e => by rw [e, m5] at h4; cases h4
  obtain ⟨fr6, m6, eak6, k6⟩ := put_new (o := .lst []) (fs' := mkZ [.int 40, .ref cl, .ref a1, .ref a2, .ref a3, .ref ak]) fr5 m5 h4
  have ecl6 := k6 _ _ ecl5 ncm
  have er6 := k6 _ _ er5 nrm
  generalize upd (upd H5 ak (.lst [])) m (.ins (cM K) dx (mkZ [.int 40, .ref cl, .ref a1, .ref a2, .ref a3, .ref ak])) = H6 at fr6 m6 ecl6 er6 eak6
  refine ⟨Nat.zero_le _, fun rt h5 => ⟨_, rfl, m, _, dx, _, rfl, (Same.put h5) _ _ m6, T.c_Maker, T.n_Maker_roots, mkz_len (by simp), ?_⟩⟩
  rw [mkz_6]
  have frt := free fr6 m6 h5
  have nrtr : r ≠ rt := ne_of_none er6 h5
  have nrta : ak ≠ rt := ne_of_none eak6 h5
  have nrtm : rt ≠ m := fun e => by rw [e, m6] at h5; cases h5
  obtain ⟨fr7, m7, ert7, k7⟩ := put_new (o := .lst []) (fs' := mkZ [.int 40, .ref cl, .ref a1, .ref a2, .ref a3, .ref ak, .ref rt]) fr6 m6 h5
  have ecl7 := k7 _ _ ecl6 ncm
  have er7 := k7 _ _ er6 nrm
  have eak7 := k7 _ _ eak6 nakm
  generalize upd (upd H6 rt (.lst [])) m (.ins (cM K) dx (mkZ [.int 40, .ref cl, .ref a1, .ref a2, .ref a3, .ref ak, .ref rt])) = H7 at fr7 m7 ecl7 er7 eak7 ert7
  refine ⟨Nat.zero_le _, fun wt h6 => ⟨_, rfl, m, _, dx, _, rfl, (Same.put h6) _ _ m7, T.c_Maker, T.n_Maker_waiting, mkz_len (by simp), ?_⟩⟩
  rw [mkz_7]
  have fwt := free fr7 m7 h6
  have nwtr : r ≠ wt := ne_of_none er7 h6
  have nwta : ak ≠ wt := ne_of_none eak7 h6
  have nwtt : rt ≠ wt := ne_of_none ert7 h6
  have nwtm : wt ≠ m := fun e => by rw [e, m7] at h6; cases h6
  obtain ⟨fr8, m8, ewt8, k8⟩ := put_new (o := .lst []) (fs' := mkZ [.int 40, .ref cl, .ref a1, .ref a2, .ref a3, .ref ak, .ref rt, .ref wt]) fr7 m7 h6
  have ecl8 := k8 _ _ ecl7 ncm
  have er8 := k8 _ _ er7 nrm
  have eak8 := k8 _ _ eak7 nakm
  have ert8 := k8 _ _ ert7 nrtm
  generalize upd (upd H7 wt (.lst [])) m (.ins (cM K) dx (mkZ [.int 40, .ref cl, .ref a1, .ref a2, .ref a3, .ref ak, .ref rt, .ref wt])) = H8 at fr8 m8 ecl8 er8 eak8 ert8 ewt8
  -- places, tops
  refine ⟨_, rfl, m, _, dx, _, rfl, m8, T.c_Maker, T.n_Maker_places, mkz_len (by simp), ?_⟩
  rw [mkz_8]
  refine ⟨_, rfl, m, _, dx, _, rfl, upd_same, T.c_Maker, T.n_Maker_tops, mkz_len (by simp), ?_⟩
  rw [mkz_9, upd_upd, mkz_all]
  refine q _ cl dc r a1 a2 a3 ak rt wt (fr8.trans (Fr.put (.inl (by simp)))) ⟨upd_same, (upd_ne ncm).trans ecl8, (upd_ne nrm).trans er8, (upd_ne nakm).trans eak8, (upd_ne nrtm).trans ert8, (upd_ne nwtm).trans ewt8, ?_⟩ ?_
  · simp [nakr, nrtr, nwtr, nrta, nwta, nwtt]
  · intro b hb
    simp only [List.mem_cons, List.not_mem_nil, or_false] at hb
    rcases hb with rfl | rfl | rfl | rfl | rfl
    · exact fcl
    · exact frr
    · exact fak
    · exact frt
    · exact fwt
end
end Mh
namespace Mh
open PySem PySem.Spec PyProof.Rows L2 TL
/-- the maker, two claims put: its parts; ys what was asked so far -/
structure Mk2 (K : PySem.W.Frag) (H : Hp) (m cl ak rt wt : Addr) (w0 w1 : Cs) (ys : List V) : Prop where
  eob : ∃ dx a1 a2 a3 : Addr, H m = some (.ins (cM K) dx (mkF (.ref cl) (.ref a1) (.ref a2) (.ref a3) (.ref ak) (.ref rt) (.ref wt) (.int 2) (.int 2)))
  ecl : ClA K (mask (fun b => b = ak) H) cl w0 w1
  eak : H ak = some (.lst ys)
theorem Mk2.fr {K : PySem.W.Frag} {H H' : Hp} {m cl ak rt wt : Addr} {w0 w1 : Cs} {ys ys' : List V} (M : Mk2 K H m cl ak rt wt w0 w1 ys) (f : Fr [ak] H H') (e : H' ak = some (.lst ys')) : Mk2 K H' m cl ak rt wt w0 w1 ys' := by
  obtain ⟨dx, a1, a2, a3, h⟩ := M.eob
  have hm : m ≠ ak := ne_of h M.eak (by intro z; cases z)
  exact ⟨⟨dx, a1, a2, a3, f _ _ h (by simpa using hm)⟩, M.ecl.mono (mask_same fun b o e2 hp => ⟨hp, f b o e2 (by simpa using hp)⟩), e⟩
theorem Mk2.cls {K : PySem.W.Frag} {H : Hp} {m cl ak rt wt : Addr} {w0 w1 : Cs} {ys : List V} (M : Mk2 K H m cl ak rt wt w0 w1 ys) : ClA K H cl w0 w1 := M.ecl.mono mask_sub
section
variable {P : Program} {w : World} {K : PySem.W.Frag} {mg : Str → Option Value} {base : Heap}
/-! ### Maker.place, top -/
theorem sc_place : FnScope ["self"] ["self"] (defScope sMaker_place) := ⟨rfl, rfl, rfl, by decide +kernel, rfl, by decide +kernel, by decide +kernel⟩
def spPlace (K : PySem.W.Frag) : Sp := fun vs H Q _ => ∃ (m dx : Addr) (cl a1 a2 a3 ak rt wt t : V) (p : Int), vs = [.ref m] ∧ H m = some (.ins (cM K) dx (mkF cl a1 a2 a3 ak rt wt (.int p) t)) ∧ Q (.int p) (upd H m (.ins (cM K) dx (mkF cl a1 a2 a3 ak rt wt (.int (p + 1)) t)))
theorem ok_place (T : Txt K mg) : CallM P w K mg base 1 (cM K) "place" ["self"] [] (spPlace K) := by
  obtain ⟨fd, F⟩ := T.f_Maker_place
  refine ⟨_, fd, [], T.c_Maker, T.m_Maker_place, F.bindsN (ps := ["self"]) (fun _ _ _ _ _ _ us hl => match us, hl with | [_], _ => rfl), .nil, okN F sc_place (fun vs H Q E h => ?_) fun cdv A outer s H vs Q E hr h => ?_⟩
  · obtain ⟨m, dx, cl, a1, a2, a3, ak, rt, wt, t, p, rfl, _⟩ := h
    rfl
  obtain ⟨m, dx, cl, a1, a2, a3, ak, rt, wt, t, p, rfl, hm, q⟩ := h
  refine ⟨_, pss_cons (ps_fld (pv 0) (pe_op op_add (pe_fld (pv 0) rfl) pe_int) rfl) (pss_one (ps_ret (pe_op op_sub (pe_fld (pv 0) rfl) pe_int))), ?_⟩
  refine ⟨_, rfl, m, _, dx, _, _, rfl, hm, T.c_Maker, T.n_Maker_places, mk_places, _, _, rfl, rfl, _, rfl, m, _, dx, _, rfl, hm, T.c_Maker, T.n_Maker_places, (by show 10 < 1000; decide), ?_⟩
  rw [mk_p_places]
  refine ⟨_, rfl, m, _, dx, _, _, rfl, upd_same, T.c_Maker, T.n_Maker_places, mk_places, _, _, rfl, rfl, ?_⟩
  have e : p + 1 - 1 = p := by omega
  show Q (.int (p + 1 - 1)) _
  rw [e]
  exact q
theorem sc_top : FnScope ["self", "word", "number"] ["self", "word"] (defScope sMaker_top) := ⟨rfl, rfl, rfl, by decide +kernel, rfl, by decide +kernel, by decide +kernel⟩
def spTop (K : PySem.W.Frag) : Sp := fun vs H Q _ => ∃ (m dx cl dc r a dxw : Addr) (a1 a2 a3 ak rt wt : V) (p i : Int) (rows : List V) (wd : Cs), vs = [.ref m, .ref a] ∧ H m = some (.ins (cM K) dx (mkF (.ref cl) a1 a2 a3 ak rt wt (.int p) (.int p))) ∧
  H cl = some (.ins (cC K) dc (clF (.ref r))) ∧ H r = some (.lst rows) ∧ rows.length ≤ 10 ∧ H a = some (.ins (cW K) dxw (wdF i (S wd))) ∧
  ∀ (H' : Hp) (t q : Addr), Fr [m, r] H H' → H' m = some (.ins (cM K) dx (mkF (.ref cl) a1 a2 a3 ak rt wt (.int (p + 1)) (.int (p + 1)))) → H' r = some (.lst (rows ++ [.ref t])) →
    H' t = some (.tup [.str (S wd), .int i, .int 0, .ref q]) → H' q = some (.tup [.str "seen", .int p]) → Q (.int p) H'
theorem ok_top (T : Txt K mg) : CallM P w K mg base 2 (cM K) "top" ["self", "word"] [] (spTop K) := by
  obtain ⟨fd, F⟩ := T.f_Maker_top
  refine ⟨_, fd, [], T.c_Maker, T.m_Maker_top, F.bindsN (ps := ["self", "word"]) (fun _ _ _ _ _ _ us hl => match us, hl with | [_, _], _ => rfl), .nil, okN F sc_top (fun vs H Q E h => ?_) fun cdv A outer s H vs Q E hr h => ?_⟩
  · obtain ⟨m, dx, cl, dc, r, a, dxw, a1, a2, a3, ak, rt, wt, p, i, rows, wd, rfl, _⟩ := h
    rfl
  obtain ⟨m, dx, cl, dc, r, a, dxw, a1, a2, a3, ak, rt, wt, p, i, rows, wd, rfl, hm, hcl, hrw, hlen, ha, k⟩ := h
  have g1 := ok_place (P := P) (w := w) (base := base) T
  have g2 := ok_clP (P := P) (w := w) (base := base) T
  refine ⟨_, pss_cons (ps_set (i := 2) sc_top.nd rfl (Or.inl rfl) (pm0 g1 (pv 0) hr)) (pss_cons (ps_fld (pv 0) (pe_fld (pv 0) rfl) rfl)
    (pss_cons (ps_expr (pm g2 (pe_fld (pv 0) rfl) hr (pa_cons (pe_fld (pv 1) rfl) (pa_cons (pe_fld (pv 1) rfl) (pa_cons (pe_fld (pv 1) rfl) (pa_cons (pe_tup (pa_cons pe_str (pa_cons (pv 2) pa_nil))) pa_nil))))))
    (pss_one (ps_ret (pv 2))))), ?_⟩
  have nclm : cl ≠ m := ne_of hcl hm (by intro z; injection z with z1 z2 z3; cases z3)
  have nrm : r ≠ m := ne_of hrw hm (by intro z; cases z)
  have nam : a ≠ m := ne_of ha hm (by intro z; injection z with z1 z2 z3; cases z3)
  refine ⟨_, rfl, m, dx, _, rfl, hm, mk_place, m, dx, _, _, _, _, _, _, _, _, p, rfl, hm, ?_⟩
  refine ⟨_, rfl, m, _, dx, _, _, rfl, upd_same, T.c_Maker, T.n_Maker_places, mk_places, _, rfl, m, _, dx, _, rfl, upd_same, T.c_Maker, T.n_Maker_tops, (by show 10 < 1000; decide), ?_⟩
  rw [mk_p_tops, upd_upd]
  have fr1 : Fr [m, r] H (upd H m (.ins (cM K) dx (mkF (.ref cl) a1 a2 a3 ak rt wt (.int (p + 1)) (.int (p + 1))))) := Fr.put (.inl (by simp))
  have m1 : upd H m (.ins (cM K) dx (mkF (.ref cl) a1 a2 a3 ak rt wt (.int (p + 1)) (.int (p + 1)))) m = _ := upd_same
  have c1 := (upd_ne nclm (H := H) (o := .ins (cM K) dx (mkF (.ref cl) a1 a2 a3 ak rt wt (.int (p + 1)) (.int (p + 1))))).trans hcl
  have r1 := (upd_ne nrm (H := H) (o := .ins (cM K) dx (mkF (.ref cl) a1 a2 a3 ak rt wt (.int (p + 1)) (.int (p + 1))))).trans hrw
  have w1 := (upd_ne nam (H := H) (o := .ins (cM K) dx (mkF (.ref cl) a1 a2 a3 ak rt wt (.int (p + 1)) (.int (p + 1))))).trans ha
  generalize upd H m (.ins (cM K) dx (mkF (.ref cl) a1 a2 a3 ak rt wt (.int (p + 1)) (.int (p + 1)))) = H1 at fr1 m1 c1 r1 w1
  refine ⟨_, rfl, m, _, dx, _, _, rfl, m1, T.c_Maker, T.n_Maker_claims, mk_claims, cl, dc, _, rfl, c1, cl_put, ?_⟩
  refine ⟨_, rfl, a, _, dxw, _, _, rfl, w1, T.c_Word, T.n_Word_name, wd_name, _, rfl, a, _, dxw, _, _, rfl, w1, T.c_Word, T.n_Word_at, wd_at, _, rfl, a, _, dxw, _, _, rfl, w1, T.c_Word, T.n_Word_bits, wd_bits, _, rfl, (by show 2 ≤ sizeLine; decide), fun q hq => ?_⟩
  have s2 : Same H1 (upd H1 q (.tup [.str "seen", .int p])) := Same.put hq
  have q2 : upd H1 q (.tup [.str "seen", .int p]) q = some (.tup [.str "seen", .int p]) := upd_same
  generalize upd H1 q (.tup [.str "seen", .int p]) = H2 at s2 q2
  refine ⟨cl, dc, r, q, S wd, i, rows, rfl, s2 _ _ c1, s2 _ _ r1, hlen, fun t v ht => ⟨_, rfl, ?_⟩⟩
  have s3 : Same H2 (upd H2 t (.tup [.str (S wd), .int i, .int 0, .ref q])) := Same.put ht
  have t3 : upd H2 t (.tup [.str (S wd), .int i, .int 0, .ref q]) t = some (.tup [.str (S wd), .int i, .int 0, .ref q]) := upd_same
  generalize upd H2 t (.tup [.str (S wd), .int i, .int 0, .ref q]) = H3 at s3 t3
  have r3 := s3 _ _ (s2 _ _ r1)
  have ntr : t ≠ r := ne_of t3 r3 (by intro z; cases z)
  have nqr : q ≠ r := ne_of (s3 _ _ q2) r3 (by intro z; cases z)
  exact k _ t q ((fr1.trans (Fr.of_same (s2.trans s3))).trans (Fr.put (.inl (by simp)))) ((upd_ne nrm.symm).trans (s3 _ _ (s2 _ _ m1))) upd_same ((upd_ne ntr).trans t3) ((upd_ne nqr).trans (s3 _ _ q2))
/-! ### Maker.ask, meaning -/
theorem sc_ask : FnScope ["self", "word", "claim"] ["self", "word"] (defScope sMaker_ask) := ⟨rfl, rfl, rfl, by decide +kernel, rfl, by decide +kernel, by decide +kernel⟩
def spAsk (K : PySem.W.Frag) : Sp := fun vs H Q _ => ∃ (m cl ak rt wt a dxw : Addr) (w0 w1 wd : Cs) (ys : List V) (i : Int), vs = [.ref m, .ref a] ∧ Mk2 K H m cl ak rt wt w0 w1 ys ∧ ys.length ≤ 100000 ∧ H a = some (.ins (cW K) dxw (wdF i (S wd))) ∧
  ∀ (H' : Hp) (ys' : List V), Fr [ak] H H' → H' ak = some (.lst ys') → ys'.length = ys.length + 1 → Q (idxV (idx w0 w1 wd)) H'
theorem ok_ask (T : Txt K mg) : CallM P w K mg base 4 (cM K) "ask" ["self", "word"] [] (spAsk K) := by
  obtain ⟨fd, F⟩ := T.f_Maker_ask
  refine ⟨_, fd, [], T.c_Maker, T.m_Maker_ask, F.bindsN (ps := ["self", "word"]) (fun _ _ _ _ _ _ us hl => match us, hl with | [_, _], _ => rfl), .nil, okN F sc_ask (fun vs H Q E h => ?_) fun cdv A outer s H vs Q E hr h => ?_⟩
  · obtain ⟨m, cl, ak, rt, wt, a, dxw, w0, w1, wd, ys, i, rfl, _⟩ := h
    rfl
  obtain ⟨m, cl, ak, rt, wt, a, dxw, w0, w1, wd, ys, i, rfl, M, hys, ha, k⟩ := h
  refine ⟨_, pss_cons (ps_set (i := 2) sc_ask.nd rfl (Or.inl rfl) (pm (ok_clF T) (pe_fld (pv 0) rfl) hr (pa_cons (pe_fld (pv 1) rfl) (pa_cons (pe_fld (pv 1) rfl) pa_nil))))
    (pss_cons (ps_expr (pe_bm PySem.F.plainAttrs_list PySem.F.slot_list_append PySem.F.type_list_append mt_append (pe_fld (pv 0) rfl) (pa_cons (pe_tup (pa_cons (pe_fld (pv 1) rfl) (pa_cons (pe_fld (pv 1) rfl) (pa_cons (pe_fld (pv 1) rfl) (pa_cons (pv 2) pa_nil))))) pa_nil)))
    (pss_one (ps_ret (pv 2)))), ?_⟩
  obtain ⟨dx, a1, a2, a3, hm⟩ := M.eob
  obtain ⟨dc, r, r0, r1, q0, q1, hcl, _⟩ := M.cls.ex
  refine ⟨_, rfl, m, _, dx, _, _, rfl, hm, T.c_Maker, T.n_Maker_claims, mk_claims, cl, dc, _, rfl, hcl, cl_of, ?_⟩
  refine ⟨_, rfl, a, _, dxw, _, _, rfl, ha, T.c_Word, T.n_Word_name, wd_name, _, rfl, a, _, dxw, _, _, rfl, ha, T.c_Word, T.n_Word_bits, wd_bits, cl, w0, w1, wd, rfl, M.cls, fun H1 s1 => ?_⟩
  have hm1 := s1 _ _ hm
  have ha1 := s1 _ _ ha
  have hk1 := s1 _ _ M.eak
  refine ⟨_, rfl, m, _, dx, _, _, rfl, hm1, T.c_Maker, T.n_Maker_asked, mk_asked, .inl ⟨rfl, _, SqL.of hk1⟩, ?_⟩
  refine ⟨_, rfl, a, _, dxw, _, _, rfl, ha1, T.c_Word, T.n_Word_name, wd_name, _, rfl, a, _, dxw, _, _, rfl, ha1, T.c_Word, T.n_Word_at, wd_at, _, rfl, a, _, dxw, _, _, rfl, ha1, T.c_Word, T.n_Word_bits, wd_bits, _, rfl, (by show 4 ≤ sizeLine; decide), fun t ht => ?_⟩
  refine ⟨ak, _, _, rfl, rfl, (Same.put ht) _ _ hk1, slt (by omega), ?_⟩
  exact ⟨_, rfl, k _ _ ((Fr.of_same (s1.trans (Same.put ht))).trans (Fr.put (.inl (by simp)))) upd_same (by rw [List.length_append] <;> rfl)⟩
theorem sc_meaning : FnScope ["self", "word", "claim"] ["self", "word"] (defScope sMaker_meaning) := ⟨rfl, rfl, rfl, by decide +kernel, rfl, by decide +kernel, by decide +kernel⟩
def spMean (K : PySem.W.Frag) : Sp := fun vs H Q _ => ∃ (m cl ak rt wt a dxw : Addr) (w0 w1 wd : Cs) (ys : List V) (i : Int), vs = [.ref m, .ref a] ∧ Mk2 K H m cl ak rt wt w0 w1 ys ∧ ys.length ≤ 100000 ∧ H a = some (.ins (cW K) dxw (wdF i (S wd))) ∧
  ∀ (H' : Hp) (ys' : List V) (v : V), Fr [ak] H H' → H' ak = some (.lst ys') → ys'.length = ys.length + 1 → MeanV H' (idx w0 w1 wd) v → Q v H'
/-- the row of a claim -/
theorem ClA.row {K : PySem.W.Frag} {H : Hp} {cl : Addr} {w0 w1 : Cs} (c : ClA K H cl w0 w1) : ∃ (dc r r0 r1 : Addr), H cl = some (.ins (cC K) dc (clF (.ref r))) ∧ H r = some (.lst [.ref r0, .ref r1]) ∧
    ∀ n : Nat, n = 0 ∨ n = 1 → ∃ (rr q : Addr) (x y z : V), atI [V.ref r0, V.ref r1] (n : Int) = some (.ref rr) ∧ H rr = some (.tup [x, y, z, .ref q]) ∧ H q = some (.tup [.str "seen", .int n]) := by
  obtain ⟨dc, r, r0, r1, q0, q1, h1, h2, h3, h4, h5, h6⟩ := c.ex
  refine ⟨dc, r, r0, r1, h1, h2, ?_⟩
  rintro n (rfl | rfl)
  · exact ⟨r0, q0, _, _, _, atI_nat (j := 0) rfl, h3, h5⟩
  · exact ⟨r1, q1, _, _, _, atI_nat (j := 1) rfl, h4, h6⟩
theorem ok_meaning (T : Txt K mg) : CallM P w K mg base 5 (cM K) "meaning" ["self", "word"] [] (spMean K) := by
  obtain ⟨fd, F⟩ := T.f_Maker_meaning
  refine ⟨_, fd, [], T.c_Maker, T.m_Maker_meaning, F.bindsN (ps := ["self", "word"]) (fun _ _ _ _ _ _ us hl => match us, hl with | [_, _], _ => rfl), .nil, okN F sc_meaning (fun vs H Q E h => ?_) fun cdv A outer s H vs Q E hr h => ?_⟩
  · obtain ⟨m, cl, ak, rt, wt, a, dxw, w0, w1, wd, ys, i, rfl, _⟩ := h
    rfl
  obtain ⟨m, cl, ak, rt, wt, a, dxw, w0, w1, wd, ys, i, rfl, M, hys, ha, k⟩ := h
  refine ⟨_, pss_cons (ps_set (i := 2) sc_meaning.nd rfl (Or.inl rfl) (pm (ok_ask T) (pv 0) hr (pa_cons (pv 1) pa_nil)))
    (pss_cons (ps_if (pt_cmpR op_isN (pv 2) pe_non (nomark _)) (pss_one (ps_ret pe_non)) pss_nil)
    (pss_one (ps_ret (pe_ix ix_tup (pe_ix ix_list (pe_fld (pe_fld (pv 0) rfl) rfl) (pv 2) (fun _ _ => rfl)) pe_int (fun _ _ => rfl))))), ?_⟩
  obtain ⟨dx, a1, a2, a3, hm⟩ := id M.eob
  refine ⟨_, rfl, m, dx, _, rfl, hm, mk_ask, _, rfl, m, cl, ak, rt, wt, a, dxw, w0, w1, wd, ys, i, rfl, M, hys, ha, fun H1 ys1 f1 e1 l1 => ?_⟩
  have M1 := M.fr f1 e1
  obtain ⟨dx', a1', a2', a3', hm1⟩ := M1.eob
  cases hx : idx w0 w1 wd with
  | none =>
    rw [hx] at k
    refine ⟨_, rfl, rfl, _, rfl, ?_⟩
    refine ifT rfl ?_
    exact k H1 ys1 .non f1 e1 l1 (.inl ⟨rfl, rfl⟩)
  | some n =>
    rw [hx] at k
    refine ⟨_, rfl, rfl, _, rfl, ?_⟩
    refine ifF rfl ?_
    obtain ⟨dc, r, r0, r1, hcl, hrw, hrow⟩ := M1.cls.row
    obtain ⟨rr, q, x, y, z, e2, e3, e4⟩ := hrow n (idx_01 hx)
    exact ⟨_, rfl, m, _, _, _, _, rfl, hm1, T.c_Maker, T.n_Maker_claims, mk_claims, cl, _, _, _, _, rfl, hcl, T.c_Claims, T.n_Claims_rows, cl_rows, _, rfl, r, _, (n : Nat), _, rfl, rfl, SqL.of hrw, e2, rr, _, 3, _, rfl, rfl, SqT.of e3, atI_nat (j := 3) rfl,
      k H1 ys1 (.ref q) f1 e1 l1 (.inr ⟨n, q, rfl, rfl, e4⟩)⟩
end
end Mh
namespace Mh
open PySem PySem.Spec PyProof.Rows L2 TL
/-! ### spots -/
def spN : List Str := ["tree", "depth", "kind", "given", "claim", "below"]
def spZ (vs : List V) : List (Str × V) := spN.zip vs
theorem spz_len {vs : List V} : (spZ vs).length < 1000 := by
  unfold spZ
  rw [List.length_zip]
  have : spN.length = 6 := rfl
  omega
theorem spz_nil : ([] : List (Str × V)) = spZ [] := rfl
theorem spz_0 {v0 : V} : putF ("tree" : Str) v0 (spZ []) = spZ [v0] := by kernel_rfl
theorem spz_1 {v0 v1 : V} : putF ("depth" : Str) v1 (spZ [v0]) = spZ [v0, v1] := by kernel_rfl
theorem spz_2 {v0 v1 v2 : V} : putF ("kind" : Str) v2 (spZ [v0, v1]) = spZ [v0, v1, v2] := by kernel_rfl
theorem spz_3 {v0 v1 v2 v3 : V} : putF ("given" : Str) v3 (spZ [v0, v1, v2]) = spZ [v0, v1, v2, v3] := by kernel_rfl
theorem spz_4 {v0 v1 v2 v3 v4 : V} : putF ("claim" : Str) v4 (spZ [v0, v1, v2, v3]) = spZ [v0, v1, v2, v3, v4] := by kernel_rfl
theorem spz_5 {v0 v1 v2 v3 v4 v5 : V} : putF ("below" : Str) v5 (spZ [v0, v1, v2, v3, v4]) = spF v0 v1 v2 v3 v4 v5 := by kernel_rfl
/-- an open spot for the tree at ta, new behind H -/
structure NewSp (K : PySem.W.Frag) (H H' : Hp) (ta : V) (d : Int) (s : Addr) : Prop where
  ex : ∃ (dx lb : Addr), H s = none ∧ H lb = none ∧ H' s = some (.ins (cS K) dx (spF ta (.int d) (.str "open") .non .non (.ref lb))) ∧ H' lb = some (.lst [])
section
variable {P : Program} {w : World} {K : PySem.W.Frag} {mg : Str → Option Value} {base : Heap}
theorem sc_spI : FnScope ["self", "tree", "depth"] ["self", "tree", "depth"] (defScope sSpot_init) := ⟨rfl, rfl, rfl, by decide +kernel, rfl, by decide +kernel, by decide +kernel⟩
def spSpI (K : PySem.W.Frag) : Sp := fun vs H Q _ => ∃ (a dx : Addr) (t : V) (d : Int), vs = [.ref a, t, .int d] ∧ H a = some (.ins (cS K) dx []) ∧
  ∀ (lb : Addr), H lb = none → Q .non (upd (upd H lb (.lst [])) a (.ins (cS K) dx (spF t (.int d) (.str "open") .non .non (.ref lb))))
theorem ok_spI (T : Txt K mg) : CallC P w K mg base 1 "Spot" (cS K) ["self", "tree", "depth"] [] (spSpI K) := by
  obtain ⟨fd, F⟩ := T.f_Spot_init
  refine ⟨_, fd, [], T.g_Spot, T.k_Spot, F.bindsN (ps := ["self", "tree", "depth"]) (fun _ _ _ _ _ _ us hl => match us, hl with | [_, _, _], _ => rfl), .nil, okN F sc_spI (fun vs H Q E h => ?_) fun cdv A outer s H vs Q E hr h => ?_⟩
  · obtain ⟨a, dx, t, d, rfl, _⟩ := h
    rfl
  obtain ⟨a, dx, t, d, rfl, ha, k⟩ := h
  refine ⟨_, pss_cons (ps_fld (pv 0) (pv 1) rfl) (pss_cons (ps_fld (pv 0) (pv 2) rfl) (pss_cons (ps_fld (pv 0) pe_str rfl) (pss_cons (ps_fld (pv 0) pe_non rfl) (pss_cons (ps_fld (pv 0) pe_non rfl) (pss_one (ps_fld (pv 0) (pe_lst pa_nil) rfl)))))), ?_⟩
  rw [spz_nil] at ha
  refine ⟨_, rfl, _, rfl, a, _, dx, _, rfl, ha, T.c_Spot, T.n_Spot_tree, spz_len, ?_⟩
  rw [spz_0]
  refine ⟨_, rfl, _, rfl, a, _, dx, _, rfl, upd_same, T.c_Spot, T.n_Spot_depth, spz_len, ?_⟩
  rw [spz_1, upd_upd]
  refine ⟨_, rfl, a, _, dx, _, rfl, upd_same, T.c_Spot, T.n_Spot_kind, spz_len, ?_⟩
  rw [spz_2, upd_upd]
  refine ⟨_, rfl, a, _, dx, _, rfl, upd_same, T.c_Spot, T.n_Spot_given, spz_len, ?_⟩
  rw [spz_3, upd_upd]
  refine ⟨_, rfl, a, _, dx, _, rfl, upd_same, T.c_Spot, T.n_Spot_claim, spz_len, ?_⟩
  rw [spz_4, upd_upd]
  refine ⟨Nat.zero_le _, fun lb hlb => ?_⟩
  have nla : lb ≠ a := fun e => by rw [e, upd_same] at hlb; cases hlb
  have hlb0 : H lb = none := by rw [upd_ne nla] at hlb; exact hlb
  refine ⟨_, rfl, a, _, dx, _, rfl, (upd_ne nla.symm).trans upd_same, T.c_Spot, T.n_Spot_below, spz_len, ?_⟩
  rw [spz_5]
  have e := k lb hlb0
  have ee : upd (upd (upd H a (.ins (cS K) dx (spZ [t, .int d, .str "open", .non, .non]))) lb (.lst [])) a (.ins (cS K) dx (spF t (.int d) (.str "open") .non .non (.ref lb))) = upd (upd H lb (.lst [])) a (.ins (cS K) dx (spF t (.int d) (.str "open") .non .non (.ref lb))) := by
    funext b
    by_cases h1 : b = a
    · rw [h1, upd_same, upd_same]
    · rw [upd_ne h1, upd_ne h1]
      by_cases h2 : b = lb
      · rw [h2, upd_same, upd_same]
      · rw [upd_ne h2, upd_ne h2, upd_ne h1]
  show Q .non _
  rw [ee]
  exact e
/-! ### settle -/
theorem sc_settle : FnScope ["self", "kind", "given"] ["self", "kind", "given"] (defScope sSpot_settle) := ⟨rfl, rfl, rfl, by decide +kernel, rfl, by decide +kernel, by decide +kernel⟩
def spSettle (K : PySem.W.Frag) : Sp := fun vs H Q _ => ∃ (a dx : Addr) (t d k0 g0 c b k g : V), vs = [.ref a, k, g] ∧ H a = some (.ins (cS K) dx (spF t d k0 g0 c b)) ∧ Q .non (upd H a (.ins (cS K) dx (spF t d k g c b)))
theorem ok_settle (T : Txt K mg) : CallM P w K mg base 1 (cS K) "settle" ["self", "kind", "given"] [.non] (spSettle K) ∧ CallM P w K mg base 1 (cS K) "settle" ["self", "kind", "given"] [] (spSettle K) := by
  obtain ⟨fd, F⟩ := T.f_Spot_settle
  have G : FnOk P w K mg base CX0 1 (He.ma K (He.ga K "Spot") "settle") fd ["self", "kind", "given"] (spSettle K) := by
    refine okN F sc_settle (fun vs H Q E h => ?_) fun cdv A outer s H vs Q E hr h => ?_
    · obtain ⟨a, dx, t, d, k0, g0, c, b, k, g, rfl, _⟩ := h
      rfl
    obtain ⟨a, dx, t, d, k0, g0, c, b, k, g, rfl, ha, q⟩ := h
    refine ⟨_, pss_cons (ps_fld (pv 0) (pv 1) rfl) (pss_one (ps_fld (pv 0) (pv 2) rfl)), ?_⟩
    refine ⟨_, rfl, _, rfl, a, _, dx, _, rfl, ha, T.c_Spot, T.n_Spot_kind, (by show 6 < 1000; decide), ?_⟩
    rw [sp_p_kind]
    refine ⟨_, rfl, _, rfl, a, _, dx, _, rfl, upd_same, T.c_Spot, T.n_Spot_given, (by show 6 < 1000; decide), ?_⟩
    rw [sp_p_given, upd_upd]
    exact q
  constructor
  · obtain ⟨ds, hd, hb⟩ := F.binds1 (ps := ["self", "kind", "given"]) 2 0 (by simp) rfl fun Tt kV doc pm an cdv ct us its hu hi => match us, its, hu, hi with | [_, _], [_], _, _ => ⟨_, rfl, rfl⟩
    exact ⟨_, fd, ds, T.c_Spot, T.m_Spot_settle, hb, hd, G⟩
  · obtain ⟨ds, hd, hb⟩ := F.binds1 (ps := ["self", "kind", "given"]) 3 1 (by simp) rfl fun Tt kV doc pm an cdv ct us its hu hi => match us, its, hu, hi with | [_, _, _], [_], _, _ => ⟨_, rfl, rfl⟩
    exact ⟨_, fd, ds, T.c_Spot, T.m_Spot_settle, hb, hd, G⟩
/-! ### spread -/
theorem sc_spread : FnScope ["self", "trees", "tree"] ["self", "trees"] (defScope sSpot_spread) := ⟨rfl, rfl, rfl, by decide +kernel, rfl, by decide +kernel, by decide +kernel⟩
def spSpread (K : PySem.W.Frag) : Sp := fun vs H Q _ => ∃ (a dx l : Addr) (t k g c b : V) (d : Int) (ts : List V), vs = [.ref a, .ref l] ∧ H a = some (.ins (cS K) dx (spF t (.int d) k g c b)) ∧ H l = some (.lst ts) ∧ ts.length ≤ 1000 ∧
  ∀ (H' : Hp) (lb : Addr) (ss : List Addr), Fr [a] H H' → H' a = some (.ins (cS K) dx (spF t (.int d) k g c (.ref lb))) → H lb = none → H' lb = some (.lst (ss.map V.ref)) → ss.Nodup → ss.length = ts.length →
    (∀ (j : Nat) s x, ss[j]? = some s → ts[j]? = some x → NewSp K H H' x (d + 1) s) → Q .non H'
theorem ok_spread (T : Txt K mg) : CallM P w K mg base 3 (cS K) "spread" ["self", "trees"] [] (spSpread K) := by
  obtain ⟨fd, F⟩ := T.f_Spot_spread
  have g1 := ok_spI (P := P) (w := w) (base := base) T
  refine ⟨_, fd, [], T.c_Spot, T.m_Spot_spread, F.bindsN (ps := ["self", "trees"]) (fun _ _ _ _ _ _ us hl => match us, hl with | [_, _], _ => rfl), .nil, okN F sc_spread (fun vs H Q E h => ?_) fun cdv A outer s H vs Q E hr h => ?_⟩
  · obtain ⟨a, dx, l, t, k, g, c, b, d, ts, rfl, _⟩ := h
    rfl
  obtain ⟨a, dx, l, t, k, g, c, b, d, ts, rfl, ha, hl, hlen, q⟩ := h
  refine ⟨_, pss_one (ps_fld (pv 0) (pe_lc (own := [("tree", 2)]) (g := gName 2) (tt := tYes) (te := tMake (cS K) (spSpI K) [] E0 (tCons (tVar 2) (tCons (tOp (rI0 fun i j => .int (i + j)) (tFld K (tVar 0) "depth") (tC (.int 1))) tNil))) rfl sc_spread.nd (pi_list (pv 1))
    (blkOk_by (own := [("tree", 2)]) (N := ["self", "trees", "tree"]) (sc := defScope sSpot_spread) (by decide +kernel)) (fun _ _ _ _ _ => pg_name (i := 2) sc_spread.nd rfl (Or.inl rfl)) (fun _ _ _ _ _ => pts_nil)
    (fun _ _ _ _ _ => pc g1 hr (by rfl) (pa_cons (pv 2) (pa_cons (pe_op op_add (pe_fld (pv 0) rfl) pe_int) pa_nil)))) rfl), ?_⟩
  refine ⟨_, rfl, l, rfl, ⟨_, SqL.of hl⟩, fun D hD => ?_⟩
  have nDl : D ≠ l := fun e => by rw [e, hl] at hD; cases hD
  refine lc_list (K := K) (a := l) (xs := ts) (fun j H' => ∃ ss : List Addr, Same H H' ∧ H' D = some (.lst (ss.map V.ref)) ∧ ss.length = j ∧ ss.Nodup ∧ ∀ (j : Nat) s x, ss[j]? = some s → ts[j]? = some x → NewSp K H H' x (d + 1) s ∧ s ≠ D ∧ ∀ dx lb, H' s = some (.ins (cS K) dx (spF x (.int (d + 1)) (.str "open") .non .non (.ref lb))) → lb ≠ D)
    ⟨[], Same.put hD, upd_same, rfl, List.nodup_nil, fun j s x h => by simp at h⟩ ?_ ?_ ?_
  · rintro j H' _ ⟨ss, s1, _⟩
    exact s1.seq (SqL.of hl)
  · rintro j x H1 hj ⟨ss, s1, hDs, hsl, hnd, hall⟩
    have hjl : j < ts.length := (List.getElem?_eq_some_iff.mp hj).1
    refine ⟨rfl, yes ?_⟩
    refine ⟨_, rfl, _, rfl, a, _, dx, _, _, rfl, s1 _ _ ha, T.c_Spot, T.n_Spot_depth, sp_depth, _, _, rfl, rfl, fun x0 dx0 nx ndx nex => ?_⟩
    refine ⟨x0, dx0, x, d + 1, rfl, upd_same, fun lb hlb => ⟨rfl, ?_⟩⟩
    have nlx : lb ≠ x0 := fun e => by rw [e, upd_same] at hlb; cases hlb
    have nld : lb ≠ dx0 := fun e => by rw [e, upd_ne nex, upd_same] at hlb; cases hlb
    have hlb1 : H1 lb = none := by rw [upd_ne nlx, upd_ne nld] at hlb; exact hlb
    have s2 : Same H1 (upd (upd (upd (upd H1 dx0 (.own x0)) x0 (.ins (cS K) dx0 [])) lb (.lst [])) x0 (.ins (cS K) dx0 (spF x (.int (d + 1)) (.str "open") .non .non (.ref lb)))) := fun b o e => by
      rw [upd_ne (ne_of_none e nx), upd_ne (ne_of_none e hlb1), upd_ne (ne_of_none e nx), upd_ne (ne_of_none e ndx)]
      exact e
    have ex0 : upd (upd (upd (upd H1 dx0 (.own x0)) x0 (.ins (cS K) dx0 [])) lb (.lst [])) x0 (.ins (cS K) dx0 (spF x (.int (d + 1)) (.str "open") .non .non (.ref lb))) x0 = some (.ins (cS K) dx0 (spF x (.int (d + 1)) (.str "open") .non .non (.ref lb))) := upd_same
    have elb : upd (upd (upd (upd H1 dx0 (.own x0)) x0 (.ins (cS K) dx0 [])) lb (.lst [])) x0 (.ins (cS K) dx0 (spF x (.int (d + 1)) (.str "open") .non .non (.ref lb))) lb = some (.lst []) := by rw [upd_ne nlx, upd_same]
    generalize upd (upd (upd (upd H1 dx0 (.own x0)) x0 (.ins (cS K) dx0 [])) lb (.lst [])) x0 (.ins (cS K) dx0 (spF x (.int (d + 1)) (.str "open") .non .non (.ref lb))) = H2 at s2 ex0 elb
    have hD2 := s2 _ _ hDs
    refine ⟨_, hD2, sl1000 (by rw [List.length_map]; omega), ss ++ [x0], ?_, ?_, ?_, ?_, ?_⟩
    · intro b o e
      rw [upd_ne (ne_of_none e hD)]
      exact s2 _ _ (s1 _ _ e)
    · rw [upd_same, List.map_append] <;> rfl
    · rw [List.length_append, hsl] <;> rfl
    · rw [List.nodup_append]
      refine ⟨hnd, by simp, fun s0 hs0 y hy => ?_⟩
      rw [List.mem_singleton.mp hy]
      obtain ⟨jj, hjj, ejj⟩ := List.mem_iff_getElem.mp hs0
      obtain ⟨dx1, lb1, _, _, e1, _⟩ := (hall jj s0 ts[jj] (by rw [List.getElem?_eq_getElem hjj, ejj]) (List.getElem?_eq_getElem (by omega))).1.ex
      exact ne_of_none e1 nx
    · intro jj s0 y h1 h2
      have nx0D : x0 ≠ D := (ne_of_none hDs nx).symm
      have nlbD : lb ≠ D := (ne_of_none hDs hlb1).symm
      by_cases hlt : jj < ss.length
      · rw [List.getElem?_append_left hlt] at h1
        obtain ⟨⟨dx1, lb1, f1, f2, e1, e2⟩, hsD, hlD⟩ := hall jj s0 y h1 h2
        have hne := hlD dx1 lb1 e1
        have e1' := s2 _ _ e1
        have e2' := s2 _ _ e2
        refine ⟨⟨dx1, lb1, f1, f2, by rw [upd_ne hsD]; exact e1', by rw [upd_ne hne]; exact e2'⟩, hsD, fun dx3 lb3 e3 => ?_⟩
        rw [upd_ne hsD, e1'] at e3
        have := Option.some.inj e3
        injection this with _ _ h5
        have h6 := congrArg (fun fs => List.lookup ("below" : Str) fs) h5
        have h7 : some (V.ref lb1) = some (V.ref lb3) := by
          have q1 := sp_below (t := y) (d := .int (d + 1)) (k := .str "open") (g := .non) (c := .non) (b := .ref lb1)
          have q2 := sp_below (t := y) (d := .int (d + 1)) (k := .str "open") (g := .non) (c := .non) (b := .ref lb3)
          exact q1.symm.trans (h6.trans q2)
        rw [← V.ref.inj (Option.some.inj h7)]
        exact hne
      · have ejj : jj = ss.length := by
          have := (List.getElem?_eq_some_iff.mp h1).1
          rw [List.length_append, List.length_singleton] at this
          omega
        subst ejj
        have e1 : (ss ++ [x0])[ss.length]? = some x0 := by simp
        rw [e1] at h1
        have hs0 : x0 = s0 := Option.some.inj h1
        subst hs0
        have hy : x = y := by
          rw [hsl, hj] at h2
          exact Option.some.inj h2
        subst hy
        refine ⟨⟨dx0, lb, s1.free nx, s1.free hlb1, by rw [upd_ne nx0D]; exact ex0, by rw [upd_ne nlbD]; exact elb⟩, nx0D, fun dx3 lb3 e3 => ?_⟩
        rw [upd_ne nx0D, ex0] at e3
        have := Option.some.inj e3
        injection this with _ _ h5
        have h6 := congrArg (fun fs => List.lookup ("below" : Str) fs) h5
        have h7 : some (V.ref lb) = some (V.ref lb3) := by
          have q1 := sp_below (t := x) (d := .int (d + 1)) (k := .str "open") (g := .non) (c := .non) (b := .ref lb)
          have q2 := sp_below (t := x) (d := .int (d + 1)) (k := .str "open") (g := .non) (c := .non) (b := .ref lb3)
          exact q1.symm.trans (h6.trans q2)
        rw [← V.ref.inj (Option.some.inj h7)]
        exact nlbD
  · rintro H1 ⟨ss, s1, hDs, hsl, hnd, hall⟩
    have ha1 := s1 _ _ ha
    refine ⟨_, rfl, a, _, dx, _, rfl, ha1, T.c_Spot, T.n_Spot_below, (by show 6 < 1000; decide), ?_⟩
    rw [sp_p_below]
    have nDa : D ≠ a := fun e => by rw [e, ha] at hD; cases hD
    refine q _ D ss ((Fr.of_same s1).trans (Fr.put (.inl (by simp)))) upd_same hD ((upd_ne nDa).trans hDs) hnd hsl fun j s0 x h1 h2 => ?_
    obtain ⟨⟨dx1, lb1, f1, f2, e1, e2⟩, _, _⟩ := hall j s0 x h1 h2
    have n1 : s0 ≠ a := fun e => by rw [e, ha] at f1; cases f1
    have n2 : lb1 ≠ a := fun e => by rw [e, ha] at f2; cases f2
    exact ⟨dx1, lb1, f1, f2, (upd_ne n1).trans e1, (upd_ne n2).trans e2⟩
/-! ### Maker.put -/
theorem sc_mput : FnScope ["self", "tree", "spot"] ["self", "tree"] (defScope sMaker_put) := ⟨rfl, rfl, rfl, by decide +kernel, rfl, by decide +kernel, by decide +kernel⟩
def spMPut (K : PySem.W.Frag) : Sp := fun vs H Q _ => ∃ (m dx rt wt : Addr) (cl a1 a2 a3 ak p t ta : V) (xs ys : List V), vs = [.ref m, ta] ∧ H m = some (.ins (cM K) dx (mkF cl a1 a2 a3 ak (.ref rt) (.ref wt) p t)) ∧ H rt = some (.lst xs) ∧ H wt = some (.lst ys) ∧ rt ≠ wt ∧ xs.length ≤ 100 ∧ ys.length ≤ 100 ∧
  ∀ (H' : Hp) (s : Addr), Fr [rt, wt] H H' → NewSp K H H' ta 0 s → H' rt = some (.lst (xs ++ [.ref s])) → H' wt = some (.lst (ys ++ [.ref s])) → Q .non H'
theorem ok_mput (T : Txt K mg) : CallM P w K mg base 3 (cM K) "put" ["self", "tree"] [] (spMPut K) := by
  obtain ⟨fd, F⟩ := T.f_Maker_put
  have g1 := ok_spI (P := P) (w := w) (base := base) T
  refine ⟨_, fd, [], T.c_Maker, T.m_Maker_put, F.bindsN (ps := ["self", "tree"]) (fun _ _ _ _ _ _ us hl => match us, hl with | [_, _], _ => rfl), .nil, okN F sc_mput (fun vs H Q E h => ?_) fun cdv A outer s H vs Q E hr h => ?_⟩
  · obtain ⟨m, dx, rt, wt, cl, a1, a2, a3, ak, p, t, ta, xs, ys, rfl, _⟩ := h
    rfl
  obtain ⟨m, dx, rt, wt, cl, a1, a2, a3, ak, p, t, ta, xs, ys, rfl, hm, hrt, hwt, nrw, hx, hy, q⟩ := h
  refine ⟨_, pss_cons (ps_set (i := 2) sc_mput.nd rfl (Or.inl rfl) (pc g1 hr (by rfl) (pa_cons (pv 1) (pa_cons pe_int pa_nil))))
    (pss_cons (ps_expr (pe_bm PySem.F.plainAttrs_list PySem.F.slot_list_append PySem.F.type_list_append mt_append (pe_fld (pv 0) rfl) (pa_cons (pv 2) pa_nil)))
    (pss_one (ps_expr (pe_bm PySem.F.plainAttrs_list PySem.F.slot_list_append PySem.F.type_list_append mt_append (pe_fld (pv 0) rfl) (pa_cons (pv 2) pa_nil))))), ?_⟩
  refine ⟨_, rfl, fun x0 dx0 nx ndx nex => ?_⟩
  refine ⟨x0, dx0, ta, 0, rfl, upd_same, fun lb hlb => ⟨rfl, ?_⟩⟩
  have nlx : lb ≠ x0 := fun e => by rw [e, upd_same] at hlb; cases hlb
  have nld : lb ≠ dx0 := fun e => by rw [e, upd_ne nex, upd_same] at hlb; cases hlb
  have hlb1 : H lb = none := by rw [upd_ne nlx, upd_ne nld] at hlb; exact hlb
  have s2 : Same H (upd (upd (upd (upd H dx0 (.own x0)) x0 (.ins (cS K) dx0 [])) lb (.lst [])) x0 (.ins (cS K) dx0 (spF ta (.int 0) (.str "open") .non .non (.ref lb)))) := fun b o e => by
    rw [upd_ne (ne_of_none e nx), upd_ne (ne_of_none e hlb1), upd_ne (ne_of_none e nx), upd_ne (ne_of_none e ndx)]
    exact e
  have ex0 : upd (upd (upd (upd H dx0 (.own x0)) x0 (.ins (cS K) dx0 [])) lb (.lst [])) x0 (.ins (cS K) dx0 (spF ta (.int 0) (.str "open") .non .non (.ref lb))) x0 = some (.ins (cS K) dx0 (spF ta (.int 0) (.str "open") .non .non (.ref lb))) := upd_same
  have elb : upd (upd (upd (upd H dx0 (.own x0)) x0 (.ins (cS K) dx0 [])) lb (.lst [])) x0 (.ins (cS K) dx0 (spF ta (.int 0) (.str "open") .non .non (.ref lb))) lb = some (.lst []) := by rw [upd_ne nlx, upd_same]
  show tSeq _ _ _ _ (upd (upd (upd (upd H dx0 (.own x0)) x0 (.ins (cS K) dx0 [])) lb (.lst [])) x0 (.ins (cS K) dx0 (spF ta (.int 0) (.str "open") .non .non (.ref lb))))
  generalize upd (upd (upd (upd H dx0 (.own x0)) x0 (.ins (cS K) dx0 [])) lb (.lst [])) x0 (.ins (cS K) dx0 (spF ta (.int 0) (.str "open") .non .non (.ref lb))) = H2 at s2 ex0 elb
  have m2 := s2 _ _ hm
  have r2 := s2 _ _ hrt
  have w2 := s2 _ _ hwt
  have nmr : m ≠ rt := ne_of m2 r2 (by intro z; cases z)
  have nmw : m ≠ wt := ne_of m2 w2 (by intro z; cases z)
  have nxr : x0 ≠ rt := ne_of ex0 r2 (by intro z; cases z)
  have nxw : x0 ≠ wt := ne_of ex0 w2 (by intro z; cases z)
  have nlr : lb ≠ rt := fun e => by rw [e, hrt] at hlb1; cases hlb1
  have nlw : lb ≠ wt := fun e => by rw [e, hwt] at hlb1; cases hlb1
  refine ⟨_, rfl, m, _, dx, _, _, rfl, m2, T.c_Maker, T.n_Maker_roots, mk_roots, .inl ⟨rfl, _, SqL.of r2⟩, _, rfl, rt, _, _, rfl, rfl, r2, sl1000 (by omega), ?_⟩
  have w3 := (upd_ne nrw.symm (H := H2) (o := .lst (xs ++ [.ref x0]))).trans w2
  refine ⟨_, rfl, m, _, dx, _, _, rfl, (upd_ne nmr).trans m2, T.c_Maker, T.n_Maker_waiting, mk_waiting, .inl ⟨rfl, _, SqL.of w3⟩, _, rfl, wt, _, _, rfl, rfl, w3, sl1000 (by omega), ?_⟩
  refine q _ x0 ?_ ⟨dx0, lb, nx, hlb1, (upd_ne nxw).trans ((upd_ne nxr).trans ex0), (upd_ne nlw).trans ((upd_ne nlr).trans elb)⟩ ((upd_ne nrw).trans upd_same) upd_same
  exact ((Fr.of_same s2).trans (Fr.put (.inl (by simp)))).trans (Fr.put (.inl (by simp)))
end
end Mh
namespace Mh
open PySem PySem.Spec PyProof.Rows L2 TL
/-! ### the plain side of a turn -/
theorem LOk.num {nm : List Cs} {m : Int} : ∀ {n : Nat}, LOk nm n (.num m) → -big < m ∧ m < big
  | 0, h => by unfold LOk at h; exact h
  | _ + 1, h => by unfold LOk at h; exact h
theorem LOk.seen {nm : List Cs} {k : Nat} {w : Cs} : ∀ {n : Nat}, LOk nm n (.seen k w) → k < 2 ∧ nm[k]? = some w
  | 0, h => by unfold LOk at h; exact h
  | _ + 1, h => by unfold LOk at h; exact h
theorem LOk.free {nm : List Cs} {w : Cs} : ∀ {n : Nat}, LOk nm n (.free w) → ∃ j, 2 ≤ j ∧ nm[j]? = some w
  | 0, h => by unfold LOk at h; exact h
  | _ + 1, h => by unfold LOk at h; exact h
theorem LOk.node {nm : List Cs} {kd : Kd} {ps : List LT} : ∀ {n : Nat}, LOk nm n (.node kd ps) → ∃ k, n = k + 1 ∧ kd.okLen ps.length ∧ ∀ p ∈ ps, LOk nm k p
  | 0, h => by unfold LOk at h; exact h.elim
  | k + 1, h => by unfold LOk at h; exact ⟨k, rfl, h.1, h.2⟩
section
variable {nm : List Cs} {w0 w1 : Cs}
theorem nm_inj (N : Names nm) {i j : Nat} {w : Cs} (h1 : nm[i]? = some w) (h2 : nm[j]? = some w) : i = j := by
  obtain ⟨hi, e1⟩ := List.getElem?_eq_some_iff.mp h1
  obtain ⟨hj, e2⟩ := List.getElem?_eq_some_iff.mp h2
  exact (List.getElem_inj N.nd).mp (e1.trans e2.symm)
theorem idx_seen (N : Names nm) (e0 : nm[0]? = some w0) (e1 : nm[1]? = some w1) {k : Nat} {w : Cs} (hk : k < 2) (h : nm[k]? = some w) : idx w0 w1 w = some k := by
  unfold idx
  by_cases h0 : w = w0
  · subst h0
    have := nm_inj N h e0
    subst this
    rw [if_pos rfl]
  · rw [if_neg h0]
    have k1 : k = 1 := by
      rcases Nat.lt_or_ge k 1 with q | q
      · have : k = 0 := by omega
        subst this
        rw [e0] at h
        exact (h0 (Option.some.inj h).symm).elim
      · omega
    subst k1
    rw [e1] at h
    rw [if_pos (Option.some.inj h).symm]
theorem idx_free (N : Names nm) (e0 : nm[0]? = some w0) (e1 : nm[1]? = some w1) {j : Nat} {w : Cs} (hj : 2 ≤ j) (h : nm[j]? = some w) : idx w0 w1 w = none := by
  unfold idx
  rw [if_neg, if_neg]
  · rintro rfl
    have := nm_inj N h e1
    omega
  · rintro rfl
    have := nm_inj N h e0
    omega
theorem idx_core (N : Names nm) (e0 : nm[0]? = some w0) (e1 : nm[1]? = some w1) {w : Cs} (h : w ∈ cores) : idx w0 w1 w = none := by
  unfold idx
  rw [if_neg, if_neg]
  · rintro rfl
    exact N.nc _ (List.mem_of_getElem? e1) h
  · rintro rfl
    exact N.nc _ (List.mem_of_getElem? e0) h
end
theorem nmB_word {w : Cs} (h : WdOk w) : nmB (.word w) = true := by
  obtain ⟨c, r, rfl, h1, h2⟩ := h.ne
  show (!decide (c :: r = [42]) && !decide (c :: r = [61])) = true
  rw [decide_eq_false (by intro z; injection z with z; omega), decide_eq_false (by intro z; injection z with z; omega)]
  rfl
def CORE : List V := [.str "fn", .str "pick", .str "mac", .str "now"]
theorem core_eq : CORE = cores.map fun w => V.str (S w) := by
  unfold CORE
  rw [l_fn, l_pick, l_mac, l_now] <;> rfl
theorem inV_core (w : Cs) : inV (.str (S w)) CORE = decide (w ∈ cores) := by
  have e : ∀ ls : List Cs, inV (.str (S w)) (ls.map fun w => V.str (S w)) = decide (w ∈ ls) := by
    intro ls
    induction ls with
    | nil => rfl
    | cons a r ih =>
      show (eqV (.str (S a)) (.str (S w)) || inV (.str (S w)) (r.map fun w => V.str (S w))) = _
      rw [ih]
      have e1 : eqV (.str (S a)) (.str (S w)) = decide (w = a) := by
        show (decide (S a = S w)) = _
        by_cases h : w = a
        · rw [h, decide_eq_true rfl, decide_eq_true rfl]
        · rw [decide_eq_false h, decide_eq_false fun z => h (S_inj z).symm]
      rw [e1]
      by_cases h : w = a
      · simp [h]
      · simp [h]
  rw [core_eq, e]
def Kd.nm : Kd → Str
  | .call => "call"
  | .pick => "pick"
  | .now => "now"
/-- a spot that was spread over the parts as -/
structure NodeR (K : PySem.W.Frag) (H H' : Hp) (a dx : Addr) (ta : V) (d : Int) (k : Str) (as : List Addr) : Prop where
  ex : ∃ (lb : Addr) (ss : List Addr), H' a = some (.ins (cS K) dx (spF ta (.int d) (.str k) .non .non (.ref lb))) ∧ H lb = none ∧ H' lb = some (.lst (ss.map V.ref)) ∧ ss.Nodup ∧ ss.length = as.length ∧
    ∀ (j : Nat) s b, ss[j]? = some s → as[j]? = some b → NewSp K H H' (.ref b) (d + 1) s
theorem free_back {L : List Addr} {H H1 : Hp} (f : Fr L H H1) (hL : ∀ b ∈ L, H1 b ≠ none) {l : Addr} (h : H1 l = none) : H l = none := f.free h fun hm => hL l hm h
theorem NewSp.back {K : PySem.W.Frag} {L : List Addr} {H H1 H' : Hp} {ta : V} {d : Int} {s : Addr} (n : NewSp K H1 H' ta d s) (f : Fr L H H1) (hL : ∀ b ∈ L, H1 b ≠ none) : NewSp K H H' ta d s := by
  obtain ⟨dx, lb, h1, h2, h3, h4⟩ := n.ex
  exact ⟨dx, lb, free_back f hL h1, free_back f hL h2, h3, h4⟩
theorem NodeR.back {K : PySem.W.Frag} {L : List Addr} {H H1 H' : Hp} {a dx : Addr} {ta : V} {d : Int} {k : Str} {as : List Addr} (n : NodeR K H1 H' a dx ta d k as) (f : Fr L H H1) (hL : ∀ b ∈ L, H1 b ≠ none) : NodeR K H H' a dx ta d k as := by
  obtain ⟨lb, ss, h1, h2, h3, h4, h5, h6⟩ := n.ex
  exact ⟨lb, ss, h1, free_back f hL h2, h3, h4, h5, fun j s b e1 e2 => (h6 j s b e1 e2).back f hL⟩
section
variable {P : Program} {w : World} {K : PySem.W.Frag} {mg : Str → Option Value} {base : Heap}
/-! ### come_to_call -/
theorem sc_cocall : FnScope ["spot"] ["spot"] (defScope s_come_to_call) := ⟨rfl, rfl, rfl, by decide +kernel, rfl, by decide +kernel, by decide +kernel⟩
def spCoCall (K : PySem.W.Frag) : Sp := fun vs H Q _ => ∃ (a dx ta dr l lb : Addr) (i m0 d0 d : Int) (as : List Addr), vs = [.ref a] ∧ H a = some (.ins (cS K) dx (spF (.ref ta) (.int d) (.str "open") .non .non (.ref lb))) ∧
  H ta = some (.ins (cR K) dr (rwF i m0 d0 l)) ∧ H l = some (.lst (as.map V.ref)) ∧ as.length ≤ 1000 ∧ ∀ H', Fr [a] H H' → NodeR K H H' a dx (.ref ta) d "call" as → Q .non H'
theorem ok_cocall (T : Txt K mg) : CallF P w K mg base 4 "come_to_call" ["spot"] [] (spCoCall K) := by
  obtain ⟨fd, F⟩ := T.f_come_to_call
  have g1 := (ok_settle (P := P) (w := w) (base := base) T).1
  have g2 := ok_spread (P := P) (w := w) (base := base) T
  refine ⟨_, fd, [], T.g_come_to_call, F.kp, F.bindsN (ps := ["spot"]) (fun _ _ _ _ _ _ us hl => match us, hl with | [_], _ => rfl), .nil, okN F sc_cocall (fun vs H Q E h => ?_) fun cdv A outer s H vs Q E hr h => ?_⟩
  · obtain ⟨a, dx, ta, dr, l, lb, i, m0, d0, d, as, rfl, _⟩ := h
    rfl
  obtain ⟨a, dx, ta, dr, l, lb, i, m0, d0, d, as, rfl, ha, hta, hl, hlen, k⟩ := h
  refine ⟨_, pss_cons (ps_expr (pm g1 (pv 0) (hr.mono (by decide)) (pa_cons pe_str pa_nil))) (pss_one (ps_expr (pm g2 (pv 0) hr (pa_cons (pe_fld (pe_fld (pv 0) rfl) rfl) pa_nil)))), ?_⟩
  refine ⟨_, rfl, a, dx, _, rfl, ha, sp_settle, ?_⟩
  refine ⟨a, dx, _, _, _, _, _, _, _, _, rfl, ha, ?_⟩
  have nta : ta ≠ a := ne_of hta ha (by intro z; injection z with z1 z2 z3; cases z3)
  have nla : l ≠ a := ne_of hl ha (by intro z; cases z)
  refine ⟨_, rfl, a, dx, _, rfl, upd_same, sp_spread, _, rfl, a, _, dx, _, _, rfl, upd_same, T.c_Spot, T.n_Spot_tree, sp_tree, ta, _, dr, _, _, rfl, (upd_ne nta).trans hta, T.c_Row, T.n_Row_parts, rw_parts, ?_⟩
  refine ⟨a, dx, l, .ref ta, .str "call", .non, .non, .ref lb, d, as.map V.ref, rfl, upd_same, (upd_ne nla).trans hl, by rw [List.length_map]; exact hlen, fun H' lb' ss f h1 h2 h3 h4 h5 h6 => ?_⟩
  have f0 : Fr [a] H (upd H a (.ins (cS K) dx (spF (.ref ta) (.int d) (.str "call") .non .non (.ref lb)))) := Fr.put (.inl (by simp))
  have hL : ∀ b ∈ [a], upd H a (.ins (cS K) dx (spF (.ref ta) (.int d) (.str "call") .non .non (.ref lb))) b ≠ none := by
    intro b hb
    rw [List.mem_singleton.mp hb, upd_same]
    simp
  refine k H' (f0.trans f) ⟨lb', ss, h1, free_back f0 hL h2, h3, h4, by rw [h5, List.length_map], fun j s0 b e1 e2 => ?_⟩
  exact (h6 j s0 (.ref b) e1 (by rw [List.getElem?_map, e2] <;> rfl)).back f0 hL
/-! ### come_to_plain -/
theorem sc_coplain : FnScope ["spot", "kind", "many", "row"] ["spot", "kind", "many"] (defScope s_come_to_plain) := ⟨rfl, rfl, rfl, by decide +kernel, rfl, by decide +kernel, by decide +kernel⟩
def spCoPlain (K : PySem.W.Frag) : Sp := fun vs H Q _ => ∃ (a dx ta dr l lb : Addr) (i m0 d0 d : Int) (as : List Addr) (b0 : Addr) (kn : Str), vs = [.ref a, .str kn, .int (as.length : Nat)] ∧ H a = some (.ins (cS K) dx (spF (.ref ta) (.int d) (.str "open") .non .non (.ref lb))) ∧
  H ta = some (.ins (cR K) dr (rwF i m0 d0 l)) ∧ H l = some (.lst ((b0 :: as).map V.ref)) ∧ as.length ≤ 900 ∧ ∀ H', Fr [a] H H' → NodeR K H H' a dx (.ref ta) d kn as → Q .non H'
theorem cut_tail (x : V) (xs : List V) : cutV (x :: xs) (some ((1 : Nat) : Int)) none = xs := by
  unfold cutV
  rw [HT.sIx_nat, HT.sIx_none]
  have e : min 1 (x :: xs).length = 1 := by rw [List.length_cons]; omega
  rw [e, List.drop_one, List.tail_cons]
  exact List.take_of_length_le (by rw [List.length_cons]; omega)
theorem ok_coplain (T : Txt K mg) : CallF P w K mg base 4 "come_to_plain" ["spot", "kind", "many"] [] (spCoPlain K) := by
  obtain ⟨fd, F⟩ := T.f_come_to_plain
  have g1 := (ok_settle (P := P) (w := w) (base := base) T).1
  have g2 := ok_spread (P := P) (w := w) (base := base) T
  refine ⟨_, fd, [], T.g_come_to_plain, F.kp, F.bindsN (ps := ["spot", "kind", "many"]) (fun _ _ _ _ _ _ us hl => match us, hl with | [_, _, _], _ => rfl), .nil, okN F sc_coplain (fun vs H Q E h => ?_) fun cdv A outer s H vs Q E hr h => ?_⟩
  · obtain ⟨a, dx, ta, dr, l, lb, i, m0, d0, d, as, b0, kn, rfl, _⟩ := h
    rfl
  obtain ⟨a, dx, ta, dr, l, lb, i, m0, d0, d, as, b0, kn, rfl, ha, hta, hl, hlen, k⟩ := h
  refine ⟨_, pss_cons (ps_set (i := 3) sc_coplain.nd rfl (Or.inl rfl) (pe_fld (pv 0) rfl))
    (pss_cons (ps_if (pt_cmpR op_ne (pe_callB call_len_seq (by rfl) T.z_len PySem.boot_len (pa_cons (pe_fld (pv 3) rfl) pa_nil)) (pe_op op_add (pv 2) pe_int) (nomark _)) (pss_cons ps_never (pss_one ps_never)) pss_nil)
    (pss_cons (ps_expr (pm g1 (pv 0) (hr.mono (by decide)) (pa_cons (pv 1) pa_nil))) (pss_one (ps_expr (pm g2 (pv 0) hr (pa_cons (pe_slice sl_list (pe_fld (pv 3) rfl) (po_some pe_int) po_none) pa_nil)))))), ?_⟩
  refine ⟨_, rfl, a, _, dx, _, _, rfl, ha, T.c_Spot, T.n_Spot_tree, sp_tree, ?_⟩
  refine ⟨_, rfl, ta, _, dr, _, _, rfl, hta, T.c_Row, T.n_Row_parts, rw_parts, l, _, rfl, .inl (SqL.of hl), _, rfl, _, _, rfl, rfl, rfl, ?_⟩
  refine ⟨_, rfl, ?_⟩
  refine ifF ?_ ?_
  · have e : ((((b0 :: as).map V.ref).length : Nat) : Int) = ((as.length : Nat) : Int) + 1 := by
      rw [List.length_map, List.length_cons]
      omega
    rw [e]
    simp
  show tSeq _ _ _ _ _
  refine ⟨_, rfl, a, dx, _, rfl, ha, sp_settle, _, rfl, ?_⟩
  refine ⟨a, dx, _, _, _, _, _, _, _, _, rfl, ha, ?_⟩
  have nta : ta ≠ a := ne_of hta ha (by intro z; injection z with z1 z2 z3; cases z3)
  have nla : l ≠ a := ne_of hl ha (by intro z; cases z)
  have f0 : Fr [a] H (upd H a (.ins (cS K) dx (spF (.ref ta) (.int d) (.str kn) .non .non (.ref lb)))) := Fr.put (.inl (by simp))
  have a1 : upd H a (.ins (cS K) dx (spF (.ref ta) (.int d) (.str kn) .non .non (.ref lb))) a = _ := upd_same
  have ta1 := f0 _ _ hta (by simpa using nta)
  have l1 := f0 _ _ hl (by simpa using nla)
  show tSeq _ _ _ _ (upd H a (.ins (cS K) dx (spF (.ref ta) (.int d) (.str kn) .non .non (.ref lb))))
  generalize upd H a (.ins (cS K) dx (spF (.ref ta) (.int d) (.str kn) .non .non (.ref lb))) = H1 at f0 a1 ta1 l1
  refine ⟨_, rfl, a, dx, _, rfl, a1, sp_spread, _, rfl, ta, _, dr, _, _, rfl, ta1, T.c_Row, T.n_Row_parts, rw_parts, _, rfl, l, _, rfl, SqL.of l1, fun p hp => ?_⟩
  have s2 : Same H1 (upd H1 p (.lst (cutV ((b0 :: as).map V.ref) (some 1) none))) := Same.put hp
  have p2 : upd H1 p (.lst (cutV ((b0 :: as).map V.ref) (some 1) none)) p = some (.lst (as.map V.ref)) := by
    rw [upd_same]
    exact congrArg (fun z => some (HO.lst z)) (cut_tail (.ref b0) (as.map V.ref))
  generalize upd H1 p (.lst (cutV ((b0 :: as).map V.ref) (some 1) none)) = H2 at s2 p2
  have a2 := s2 _ _ a1
  refine ⟨a, dx, p, .ref ta, .str kn, .non, .non, .ref lb, d, as.map V.ref, rfl, a2, p2, by rw [List.length_map]; omega, fun H' lb' ss f h1 h2 h3 h4 h5 h6 => ?_⟩
  have f2 := f0.trans (Fr.of_same s2)
  have hL : ∀ b ∈ [a], H2 b ≠ none := by
    intro b hb
    rw [List.mem_singleton.mp hb, a2]
    simp
  refine k H' (f2.trans f) ⟨lb', ss, h1, free_back f2 hL h2, h3, h4, by rw [h5, List.length_map], fun j s0 b e1 e2 => ?_⟩
  exact (h6 j s0 (.ref b) e1 (by rw [List.getElem?_map, e2] <;> rfl)).back f2 hL
end
end Mh
namespace Mh
open PySem PySem.Spec PyProof.Rows L2 TL
/-- what a turn comes to a spot with; F is the part of the heap that is not touched -/
structure PreC (K : PySem.W.Frag) (H : Hp) (m cl ak rt wt a dx lb ta : Addr) (w0 w1 : Cs) (ys : List V) (d : Int) (lt : LT) (nm : List Cs) (n : Nat) (F : Hp) : Prop where
  M : Mk2 K H m cl ak rt wt w0 w1 ys
  hys : ys.length ≤ 90000
  ha : H a = some (.ins (cS K) dx (spF (.ref ta) (.int d) (.str "open") .non .non (.ref lb)))
  N : Names nm
  e0 : nm[0]? = some w0
  e1 : nm[1]? = some w1
  ok : LOk nm n lt
  tr : TreeAt K F ta lt.tr
  sf : Same F H
  fak : F ak = none
  fa : F a = none
theorem Fr.same2 {F H H' : Hp} {a b : Addr} (f : Fr [a, b] H H') (s : Same F H) (h1 : F a = none) (h2 : F b = none) : Same F H' := fun c o e => f c o (s c o e) (by
  intro hm
  rcases List.mem_cons.mp hm with rfl | hm
  · rw [h1] at e; cases e
  · rw [List.mem_singleton.mp hm, h2] at e; cases e)
/-- what the spot is behind its turn -/
def Done (K : PySem.W.Frag) (H H' F : Hp) (a dx ta : Addr) (d : Int) (lb : Addr) : LT → Prop
  | .num _ => H' a = some (.ins (cS K) dx (spF (.ref ta) (.int d) (.str "num") .non .non (.ref lb)))
  | .seen k _ => H' a = some (.ins (cS K) dx (spF (.ref ta) (.int d) (.str "seen") (.int (k : Nat)) (.int (k : Nat)) (.ref lb)))
  | .free _ => H' a = some (.ins (cS K) dx (spF (.ref ta) (.int d) (.str "free") .non .non (.ref lb)))
  | .node kd ps => ∃ as : List Addr, NodeR K H H' a dx (.ref ta) d kd.nm as ∧ as.length = ps.length ∧ ∀ (j : Nat) b p, as[j]? = some b → ps[j]? = some p → TreeAt K F b p.tr
section
variable {P : Program} {w : World} {K : PySem.W.Frag} {mg : Str → Option Value} {base : Heap}
/-! ### come_to_form -/
theorem sc_coform : FnScope ["maker", "spot", "name"] ["maker", "spot", "name"] (defScope s_come_to_form) := ⟨rfl, rfl, rfl, by decide +kernel, rfl, by decide +kernel, by decide +kernel⟩
def spCoForm (K : PySem.W.Frag) : Sp := fun vs H Q _ => ∃ (mv : V) (a dx ta dr l lb : Addr) (i m0 d0 d : Int) (as : List Addr) (b0 : Addr) (kd : Kd), vs = [mv, .ref a, .str kd.nm] ∧ H a = some (.ins (cS K) dx (spF (.ref ta) (.int d) (.str "open") .non .non (.ref lb))) ∧
  H ta = some (.ins (cR K) dr (rwF i m0 d0 l)) ∧ H l = some (.lst ((b0 :: as).map V.ref)) ∧ kd ≠ .call ∧ kd.okLen as.length ∧ ∀ H', Fr [a] H H' → NodeR K H H' a dx (.ref ta) d kd.nm as → Q .non H'
theorem ok_coform (T : Txt K mg) : CallF P w K mg base 5 "come_to_form" ["maker", "spot", "name"] [] (spCoForm K) := by
  obtain ⟨fd, F⟩ := T.f_come_to_form
  have g1 := ok_coplain (P := P) (w := w) (base := base) T
  refine ⟨_, fd, [], T.g_come_to_form, F.kp, F.bindsN (ps := ["maker", "spot", "name"]) (fun _ _ _ _ _ _ us hl => match us, hl with | [_, _, _], _ => rfl), .nil, okN F sc_coform (fun vs H Q E h => ?_) fun cdv A outer s H vs Q E hr h => ?_⟩
  · obtain ⟨mv, a, dx, ta, dr, l, lb, i, m0, d0, d, as, b0, kd, rfl, _⟩ := h
    rfl
  obtain ⟨mv, a, dx, ta, dr, l, lb, i, m0, d0, d, as, b0, kd, rfl, ha, hta, hl, hkd, hok, k⟩ := h
  refine ⟨_, pss_one (ps_if (pt_cmpR op_eq (pv 2) pe_str (nomark _)) (pss_one ps_never) (pss_one (ps_if (pt_cmpR op_eq (pv 2) pe_str (nomark _)) (pss_one ps_never)
    (pss_one (ps_if (pt_cmpR op_eq (pv 2) pe_str (nomark _)) (pss_one (ps_expr (pf g1 hr (by rfl) (pa_cons (pv 1) (pa_cons pe_str (pa_cons pe_int pa_nil)))))) (pss_one (ps_expr (pf g1 hr (by rfl) (pa_cons (pv 1) (pa_cons pe_str (pa_cons pe_int pa_nil))))))))))), ?_⟩
  have hlen := hok.pos
  cases kd with
  | call => exact (hkd rfl).elim
  | pick =>
    refine ⟨_, rfl, scal_str, _, rfl, ?_⟩
    refine ifF (by decide +kernel) ?_
    refine ⟨_, rfl, scal_str, _, rfl, ?_⟩
    refine ifF (by decide +kernel) ?_
    refine ⟨_, rfl, scal_str, _, rfl, ?_⟩
    refine ifT (by decide +kernel) ?_
    refine ⟨_, rfl, ?_⟩
    refine ⟨a, dx, ta, dr, l, lb, i, m0, d0, d, as, b0, "pick", ?_, ha, hta, hl, by omega, k⟩
    have e : as.length = 3 := hok
    rw [e] <;> rfl
  | now =>
    refine ⟨_, rfl, scal_str, _, rfl, ?_⟩
    refine ifF (by decide +kernel) ?_
    refine ⟨_, rfl, scal_str, _, rfl, ?_⟩
    refine ifF (by decide +kernel) ?_
    refine ⟨_, rfl, scal_str, _, rfl, ?_⟩
    refine ifF (by decide +kernel) ?_
    refine ⟨_, rfl, ?_⟩
    refine ⟨a, dx, ta, dr, l, lb, i, m0, d0, d, as, b0, "now", ?_, ha, hta, hl, by omega, k⟩
    have e : as.length = 1 := hok
    rw [e] <;> rfl
/-! ### come_to_word -/
theorem sc_coword : FnScope ["maker", "spot", "word", "meaning"] ["maker", "spot"] (defScope s_come_to_word) := ⟨rfl, rfl, rfl, by decide +kernel, rfl, by decide +kernel, by decide +kernel⟩
def isWdT : LT → Prop
  | .seen _ _ => True
  | .free _ => True
  | _ => False
def spCoWord (K : PySem.W.Frag) : Sp := fun vs H Q _ => ∃ (m cl ak rt wt a dx lb ta : Addr) (w0 w1 : Cs) (ys : List V) (d : Int) (lt : LT) (nm : List Cs) (n : Nat) (F : Hp), vs = [.ref m, .ref a] ∧ PreC K H m cl ak rt wt a dx lb ta w0 w1 ys d lt nm n F ∧ isWdT lt ∧
  ∀ (H' : Hp) (ys' : List V), Fr [a, ak] H H' → H' ak = some (.lst ys') → ys'.length ≤ ys.length + 1 → Done K H H' F a dx ta d lb lt → Q .non H'
theorem ok_coword (T : Txt K mg) : CallF P w K mg base 5 "come_to_word" ["maker", "spot"] [] (spCoWord K) := by
  obtain ⟨fd, F⟩ := T.f_come_to_word
  have g1 := ok_isname (P := P) (w := w) (base := base) T
  have g2 := ok_ask (P := P) (w := w) (base := base) T
  have g3 := ok_settle (P := P) (w := w) (base := base) T
  refine ⟨_, fd, [], T.g_come_to_word, F.kp, F.bindsN (ps := ["maker", "spot"]) (fun _ _ _ _ _ _ us hl => match us, hl with | [_, _], _ => rfl), .nil, okN F sc_coword (fun vs H Q E h => ?_) fun cdv A outer s H vs Q E hr h => ?_⟩
  · obtain ⟨m, cl, ak, rt, wt, a, dx, lb, ta, w0, w1, ys, d, lt, nm, n, F, rfl, _⟩ := h
    rfl
  obtain ⟨m, cl, ak, rt, wt, a, dx, lb, ta, w0, w1, ys, d, lt, nm, n, F, rfl, p, hw, k⟩ := h
  refine ⟨_, pss_cons (ps_set (i := 2) sc_coword.nd rfl (Or.inl rfl) (pe_fld (pv 1) rfl))
    (pss_cons (ps_if (pt_not (pt_val (pf g1 (hr.mono (by decide)) (by rfl) (pa_cons (pv 2) pa_nil)))) (pss_cons ps_never (pss_one ps_never)) pss_nil)
    (pss_cons (ps_fld (pv 1) (pm g2 (pv 0) hr (pa_cons (pv 2) pa_nil)) rfl)
    (pss_cons (ps_if (pt_cmpR op_isN (pe_fld (pv 1) rfl) pe_non (nomark _)) (pss_cons (ps_if (pt_cmpR op_in_seq (pe_fld (pv 2) rfl) (pgr T.g_CORE) rfl) (pss_one ps_never) (pss_one (ps_expr (pm g3.1 (pv 1) (hr.mono (by decide)) (pa_cons pe_str pa_nil))))) (pss_one ps_retN)) pss_nil)
    (pss_cons (ps_set (i := 3) sc_coword.nd rfl (Or.inl rfl) (pe_ix ix_tup (pe_ix ix_list (pe_fld (pe_fld (pv 0) rfl) rfl) (pe_fld (pv 1) rfl) (fun _ _ => rfl)) pe_int (fun _ _ => rfl)))
    (pss_one (ps_if (pt_cmpR op_eq (pe_ix ix_tup (pv 3) pe_int (fun _ _ => rfl)) pe_str (nomark _)) (pss_one ps_never) (pss_one (ps_expr (pm g3.2 (pv 1) (hr.mono (by decide)) (pa_cons pe_str (pa_cons (pe_ix ix_tup (pv 3) pe_int (fun _ _ => rfl)) pa_nil))))))))))), ?_⟩
  obtain ⟨dm, a1, a2, a3, hm⟩ := id p.M.eob
  obtain ⟨wd, hwd, hwok⟩ : ∃ wd, lt.tr = .word wd ∧ WdOk wd := by
    cases lt with
    | seen kk wd => exact ⟨wd, rfl, p.N.ok _ (List.mem_of_getElem? p.ok.seen.2)⟩
    | free wd =>
      obtain ⟨j, _, e⟩ := p.ok.free
      exact ⟨wd, rfl, p.N.ok _ (List.mem_of_getElem? e)⟩
    | num _ => exact hw.elim
    | node _ _ => exact hw.elim
  have htr := p.tr
  rw [hwd] at htr
  have htH := htr.mono p.sf
  obtain ⟨dw, iw, etw⟩ : ∃ (dw : Addr) (iw : Int), F ta = some (.ins (cW K) dw (wdF iw (S wd))) := by
    cases htr with
    | word e => exact ⟨_, _, e⟩
  have etw0 := p.sf _ _ etw
  refine ⟨_, rfl, a, _, dx, _, _, rfl, p.ha, T.c_Spot, T.n_Spot_tree, sp_tree, ?_⟩
  refine ⟨_, rfl, ta, _, rfl, htH, ?_⟩
  rw [nmB_word hwok]
  refine ⟨_, rfl, ?_⟩
  refine ifF rfl ?_
  refine ⟨_, rfl, m, dm, _, rfl, hm, mk_ask, _, rfl, m, cl, ak, rt, wt, ta, dw, w0, w1, wd, ys, iw, rfl, p.M, (by have := p.hys; omega), etw0, fun H1 ys1 f1 e1 l1 => ?_⟩
  have M1 := p.M.fr f1 e1
  have f1' : Fr [a, ak] H H1 := f1.mono (by intro b hb; simp only [List.mem_singleton] at hb; simp [hb])
  have nak : a ≠ ak := ne_of p.ha p.M.eak (by intro z; cases z)
  have a1' := f1 _ _ p.ha (by simpa using nak)
  have ntak : ta ≠ ak := ne_of etw0 p.M.eak (by intro z; cases z)
  have t1 := f1 _ _ etw0 (by simpa using ntak)
  have nta : ta ≠ a := fun e => by rw [e, p.fa] at etw; cases etw
  refine ⟨_, rfl, a, _, dx, _, rfl, a1', T.c_Spot, T.n_Spot_claim, (by show 6 < 1000; decide), ?_⟩
  rw [sp_p_claim]
  have f2 : Fr [a, ak] H1 (upd H1 a (.ins (cS K) dx (spF (.ref ta) (.int d) (.str "open") .non (idxV (idx w0 w1 wd)) (.ref lb)))) := Fr.put (.inl (by simp))
  have a2' : upd H1 a (.ins (cS K) dx (spF (.ref ta) (.int d) (.str "open") .non (idxV (idx w0 w1 wd)) (.ref lb))) a = _ := upd_same
  have t2 : upd H1 a (.ins (cS K) dx (spF (.ref ta) (.int d) (.str "open") .non (idxV (idx w0 w1 wd)) (.ref lb))) ta = _ := (upd_ne nta).trans t1
  have k2 : upd H1 a (.ins (cS K) dx (spF (.ref ta) (.int d) (.str "open") .non (idxV (idx w0 w1 wd)) (.ref lb))) ak = _ := (upd_ne nak.symm).trans e1
  have nma : m ≠ a := ne_of hm p.ha (by intro z; injection z with z1 z2 z3; cases z3)
  have ncla : cl ≠ a := by
    obtain ⟨dc, r, r0, r1, q0, q1, h1, _⟩ := p.M.cls.ex
    exact ne_of h1 p.ha (by intro z; injection z with z1 z2 z3; cases z3)
  have c2 : ClA K (upd H1 a (.ins (cS K) dx (spF (.ref ta) (.int d) (.str "open") .non (idxV (idx w0 w1 wd)) (.ref lb)))) cl w0 w1 := by
    obtain ⟨dc, r, r0, r1, q0, q1, h1, h2, h3, h4, h5, h6⟩ := M1.cls.ex
    have u1 : r ≠ a := ne_of h2 a1' (by intro z; cases z)
    have u2 : r0 ≠ a := ne_of h3 a1' (by intro z; cases z)
    have u3 : r1 ≠ a := ne_of h4 a1' (by intro z; cases z)
    have u4 : q0 ≠ a := ne_of h5 a1' (by intro z; cases z)
    have u5 : q1 ≠ a := ne_of h6 a1' (by intro z; cases z)
    exact ⟨⟨dc, r, r0, r1, q0, q1, (upd_ne ncla).trans h1, (upd_ne u1).trans h2, (upd_ne u2).trans h3, (upd_ne u3).trans h4, (upd_ne u4).trans h5, (upd_ne u5).trans h6⟩, p.M.ecl.ne⟩
  have m2 : ∃ (dx9 a1 a2 a3 : Addr), upd H1 a (.ins (cS K) dx (spF (.ref ta) (.int d) (.str "open") .non (idxV (idx w0 w1 wd)) (.ref lb))) m = some (.ins (cM K) dx9 (mkF (.ref cl) (.ref a1) (.ref a2) (.ref a3) (.ref ak) (.ref rt) (.ref wt) (.int 2) (.int 2))) := by
    obtain ⟨dx9, a1, a2, a3, h⟩ := M1.eob
    exact ⟨dx9, a1, a2, a3, (upd_ne nma).trans h⟩
  generalize hH2 : upd H1 a (.ins (cS K) dx (spF (.ref ta) (.int d) (.str "open") .non (idxV (idx w0 w1 wd)) (.ref lb))) = H2 at f2 a2' t2 k2 c2 m2
  obtain ⟨dm2, b1, b2, b3, hm2⟩ := m2
  cases lt with
  | num _ => exact hw.elim
  | node _ _ => exact hw.elim
  | free wd' =>
    injection hwd with hwd
    subst hwd
    obtain ⟨j, hj, ej⟩ := p.ok.free
    have hix := idx_free p.N p.e0 p.e1 hj ej
    rw [hix] at a2'
    refine ⟨_, rfl, a, _, dx, _, _, rfl, a2', T.c_Spot, T.n_Spot_claim, sp_claim, rfl, _, rfl, ?_⟩
    refine ifT rfl ?_
    refine ⟨_, rfl, ta, _, dw, _, _, rfl, t2, T.c_Word, T.n_Word_name, wd_name, _, CORE, rfl, .inr (He.tupB_ok T.exP.core H2), rfl, rfl, ?_⟩
    refine ⟨_, rfl, ?_⟩
    refine ifF ?_ ?_
    · show inV (.str (S wd')) CORE = false
      rw [inV_core]
      exact decide_eq_false (p.N.nc _ (List.mem_of_getElem? ej))
    refine ⟨_, rfl, a, dx, _, rfl, a2', sp_settle, ?_⟩
    refine ⟨a, dx, _, _, _, _, _, _, _, _, rfl, a2', ?_⟩
    exact k _ ys1 ((f1'.trans f2).trans (Fr.put (.inl (by simp)))) ((upd_ne nak.symm).trans k2) (by omega) upd_same
  | seen kk wd' =>
    injection hwd with hwd
    subst hwd
    obtain ⟨hk, ek⟩ := p.ok.seen
    have hix := idx_seen p.N p.e0 p.e1 hk ek
    rw [hix] at a2'
    refine ⟨_, rfl, a, _, dx, _, _, rfl, a2', T.c_Spot, T.n_Spot_claim, sp_claim, rfl, _, rfl, ?_⟩
    refine ifF rfl ?_
    obtain ⟨dc, r, r0, r1, hcl, hrw, hrow⟩ := c2.row
    obtain ⟨rr, q, x, y, z, e2, e3, e4⟩ := hrow kk (by omega)
    refine ⟨_, rfl, m, _, _, _, _, rfl, hm2, T.c_Maker, T.n_Maker_claims, mk_claims, cl, _, _, _, _, rfl, hcl, T.c_Claims, T.n_Claims_rows, cl_rows, _, rfl, a, _, dx, _, _, rfl, a2', T.c_Spot, T.n_Spot_claim, sp_claim, r, _, (kk : Nat), _, rfl, rfl, SqL.of hrw, e2, rr, _, 3, _, rfl, rfl, SqT.of e3, atI_nat (j := 3) rfl, ?_⟩
    refine ⟨_, rfl, q, _, 0, _, rfl, rfl, SqT.of e4, atI_nat (j := 0) rfl, scal_str, _, rfl, ?_⟩
    refine ifF (by decide +kernel) ?_
    refine ⟨_, rfl, a, dx, _, rfl, a2', sp_settle, _, rfl, q, _, 1, _, rfl, rfl, SqT.of e4, atI_nat (j := 1) rfl, ?_⟩
    refine ⟨a, dx, _, _, _, _, _, _, _, _, rfl, a2', ?_⟩
    exact k _ ys1 ((f1'.trans f2).trans (Fr.put (.inl (by simp)))) ((upd_ne nak.symm).trans k2) (by omega) upd_same
end
end Mh
namespace Mh
open PySem PySem.Spec PyProof.Rows L2 TL
theorem TreeAt.rowF {K : PySem.W.Frag} {F : Hp} {ta : Addr} {ts : List Tr} (h : TreeAt K F ta (.row ts)) : ∃ (dr l : Addr) (i m0 d0 : Int) (as : List Addr), F ta = some (.ins (cR K) dr (rwF i m0 d0 l)) ∧ F l = some (.lst (as.map V.ref)) ∧ as.length = ts.length ∧
    ∀ (j : Nat) b t, as[j]? = some b → ts[j]? = some t → TreeAt K F b t := by
  cases h with
  | row e1 e2 e3 e4 => exact ⟨_, _, _, _, _, _, e1, e2, e3, e4⟩
theorem trs_get {ps : List LT} {j : Nat} {p : LT} (h : ps[j]? = some p) : (LT.trs ps)[j]? = some p.tr := by
  rw [trs_map, List.getElem?_map, h] <;> rfl
/-- the row of a node: behind the word of the form, the parts -/
theorem call_row {K : PySem.W.Frag} {F : Hp} {ps : List LT} {as : List Addr} (h1 : as.length = (LT.trs ps).length) (h2 : ∀ (j : Nat) b t, as[j]? = some b → (LT.trs ps)[j]? = some t → TreeAt K F b t) :
    as.length = ps.length ∧ ∀ (j : Nat) b p, as[j]? = some b → ps[j]? = some p → TreeAt K F b p.tr := by
  refine ⟨by rw [h1, trs_map, List.length_map], fun j b p e1 e2 => h2 j b _ e1 (trs_get e2)⟩
section
variable {P : Program} {w : World} {K : PySem.W.Frag} {mg : Str → Option Value} {base : Heap}
/-! ### come_to_headed -/
theorem sc_cohead : FnScope ["maker", "spot", "first", "meaning"] ["maker", "spot"] (defScope s_come_to_headed) := ⟨rfl, rfl, rfl, by decide +kernel, rfl, by decide +kernel, by decide +kernel⟩
def spCoHead (K : PySem.W.Frag) : Sp := fun vs H Q _ => ∃ (m cl ak rt wt a dx lb ta : Addr) (w0 w1 : Cs) (ys : List V) (d : Int) (kd : Kd) (ps : List LT) (nm : List Cs) (n : Nat) (F : Hp) (wd : Cs) (ts : List Tr), vs = [.ref m, .ref a] ∧ PreC K H m cl ak rt wt a dx lb ta w0 w1 ys d (.node kd ps) nm n F ∧
  kd.tr ++ LT.trs ps = .word wd :: ts ∧ ∀ (H' : Hp) (ys' : List V), Fr [a, ak] H H' → H' ak = some (.lst ys') → ys'.length ≤ ys.length + 1 → Done K H H' F a dx ta d lb (.node kd ps) → Q .non H'
theorem ok_cohead (T : Txt K mg) : CallF P w K mg base 6 "come_to_headed" ["maker", "spot"] [] (spCoHead K) := by
  obtain ⟨fd, F⟩ := T.f_come_to_headed
  have g1 := ok_meaning (P := P) (w := w) (base := base) T
  have g2 := ok_coform (P := P) (w := w) (base := base) T
  have g3 := ok_cocall (P := P) (w := w) (base := base) T
  refine ⟨_, fd, [], T.g_come_to_headed, F.kp, F.bindsN (ps := ["maker", "spot"]) (fun _ _ _ _ _ _ us hl => match us, hl with | [_, _], _ => rfl), .nil, okN F sc_cohead (fun vs H Q E h => ?_) fun cdv A outer s H vs Q E hr h => ?_⟩
  · obtain ⟨m, cl, ak, rt, wt, a, dx, lb, ta, w0, w1, ys, d, kd, ps, nm, n, F, wd, ts, rfl, _⟩ := h
    rfl
  obtain ⟨m, cl, ak, rt, wt, a, dx, lb, ta, w0, w1, ys, d, kd, ps, nm, n, F, wd, ts, rfl, p, hts, k⟩ := h
  refine ⟨_, pss_cons (ps_set (i := 2) sc_cohead.nd rfl (Or.inl rfl) (pe_ix ix_list (pe_fld (pe_fld (pv 1) rfl) rfl) pe_int (fun _ _ => rfl)))
    (pss_cons (ps_set (i := 3) sc_cohead.nd rfl (Or.inl rfl) (pm g1 (pv 0) hr (pa_cons (pv 2) pa_nil)))
    (pss_one (ps_if (PW.pt (pw_and (pt_cmpR op_isN (pv 3) pe_non (nomark _)) (pw_and1 (pt_cmpR op_in_seq (pe_fld (pv 2) rfl) (pgr T.g_CORE) rfl)))) (pss_one (ps_expr (pf g2 hr (by rfl) (pa_cons (pv 0) (pa_cons (pv 1) (pa_cons (pe_fld (pv 2) rfl) pa_nil))))))
      (pss_one (ps_if (PW.pt (pw_and (pt_cmpR op_notN (pv 3) pe_non (nomark _)) (pw_and1 (pt_cmpR op_eq (pe_ix ix_tup (pv 3) pe_int (fun _ _ => rfl)) pe_str (nomark _))))) (pss_one ps_never)
        (pss_one (ps_expr (pf g3 (hr.mono (by decide)) (by rfl) (pa_cons (pv 1) pa_nil))))))))), ?_⟩
  obtain ⟨dm, a1, a2, a3, hm⟩ := id p.M.eob
  have htr := p.tr
  rw [show (LT.node kd ps).tr = .row (kd.tr ++ LT.trs ps) from rfl] at htr
  obtain ⟨dr, l, i, m0, d0, as, eta, el, elen, eall⟩ := htr.rowF
  have hok := p.ok.node
  obtain ⟨n', _, hlen, hps⟩ := hok
  have hpos := hlen.pos
  have eall' := eall
  rw [hts] at elen eall'
  obtain ⟨b0, as', rfl⟩ : ∃ b0 as', as = b0 :: as' := by
    cases as with
    | nil => cases elen
    | cons x r => exact ⟨x, r, rfl⟩
  have tb0 := eall' 0 b0 (.word wd) rfl rfl
  obtain ⟨dw, iw, ewd⟩ : ∃ (dw : Addr) (iw : Int), F b0 = some (.ins (cW K) dw (wdF iw (S wd))) := by
    cases tb0 with
    | word e => exact ⟨_, _, e⟩
  have etaH := p.sf _ _ eta
  have elH := p.sf _ _ el
  have ewdH := p.sf _ _ ewd
  refine ⟨_, rfl, a, _, dx, _, _, rfl, p.ha, T.c_Spot, T.n_Spot_tree, sp_tree, ta, _, dr, _, _, rfl, etaH, T.c_Row, T.n_Row_parts, rw_parts, l, _, 0, _, rfl, rfl, SqL.of elH, atI_nat (j := 0) rfl, ?_⟩
  refine ⟨_, rfl, m, dm, _, rfl, hm, mk_meaning, _, rfl, m, cl, ak, rt, wt, b0, dw, w0, w1, wd, ys, iw, rfl, p.M, (by have := p.hys; omega), ewdH, fun H1 ys1 v f1 e1 l1 mv => ?_⟩
  have f1' : Fr [a, ak] H H1 := f1.mono (by intro b hb; simp only [List.mem_singleton] at hb; simp [hb])
  have s1 : Same F H1 := f1'.same2 p.sf p.fa p.fak
  have nak : a ≠ ak := ne_of p.ha p.M.eak (by intro z; cases z)
  have ha1 := f1 _ _ p.ha (by simpa using nak)
  have hL : ∀ b ∈ [a, ak], H1 b ≠ none := by
    intro b hb
    rcases List.mem_cons.mp hb with rfl | hb
    · rw [ha1]; simp
    · rw [List.mem_singleton.mp hb, e1]; simp
  have fin : ∀ H', Fr [a] H1 H' → Done K H1 H' F a dx ta d lb (.node kd ps) → Q .non H' := fun H' f2 dn => by
    refine k H' ys1 (f1'.trans (f2.mono (by intro b hb; simp only [List.mem_singleton] at hb; simp [hb]))) (f2 _ _ e1 (by simpa using nak.symm)) (by omega) ?_
    obtain ⟨bs, nr, h1, h2⟩ := dn
    exact ⟨bs, nr.back f1' hL, h1, h2⟩
  -- the call behind the tests
  have call : kd = .call → spCoCall K [.ref a] H1 Q E0 := fun hc => by
    subst hc
    rw [show Kd.call.tr ++ LT.trs ps = LT.trs ps from rfl] at eall hts
    rw [← hts] at elen
    obtain ⟨c1, c2⟩ := call_row elen eall
    exact ⟨a, dx, ta, dr, l, lb, i, m0, d0, d, b0 :: as', rfl, ha1, s1 _ _ eta, s1 _ _ el, by rw [c1]; omega, fun H' f2 nr => fin H' f2 ⟨_, nr, c1, c2⟩⟩
  have hcore : kd = .call → ¬ wd ∈ cores := fun hc => by
    subst hc
    rw [show Kd.call.tr ++ LT.trs ps = LT.trs ps from rfl] at hts
    cases ps with
    | nil => cases hts
    | cons p0 r =>
      injection hts with h1 h2
      have hp0 := hps p0 List.mem_cons_self
      cases p0 with
      | num _ => cases h1
      | node _ _ => cases h1
      | seen kk wd' =>
        injection h1 with h1
        subst h1
        exact p.N.nc _ (List.mem_of_getElem? hp0.seen.2)
      | free wd' =>
        injection h1 with h1
        subst h1
        obtain ⟨j, _, e⟩ := hp0.free
        exact p.N.nc _ (List.mem_of_getElem? e)
  rcases mv with ⟨hx, rfl⟩ | ⟨nn, q, hx, rfl, eq⟩
  · refine ⟨_, rfl, rfl, _, rfl, ?_⟩
    refine ifT rfl ?_
    refine ⟨_, rfl, b0, _, dw, _, _, rfl, s1 _ _ ewd, T.c_Word, T.n_Word_name, wd_name, _, CORE, rfl, .inr (He.tupB_ok T.exP.core H1), rfl, rfl, ?_⟩
    refine ⟨_, rfl, ?_⟩
    by_cases hkd : kd = .call
    · refine ifF ?_ ?_
      · show inV (.str (S wd)) CORE = false
        rw [inV_core]
        exact decide_eq_false (hcore hkd)
      refine ⟨_, rfl, rfl, _, rfl, ?_⟩
      refine ifF rfl ?_
      refine ifF rfl ?_
      exact ⟨_, rfl, call hkd⟩
    · have hwk : ∃ r, kd.tr = .word wd :: r ∧ S wd = kd.nm ∧ wd ∈ cores ∧ ts = LT.trs ps := by
        cases kd with
        | call => exact (hkd rfl).elim
        | pick =>
          injection hts with h1 h2
          injection h1 with h1
          subst h1
          exact ⟨[], rfl, l_pick.symm, by decide, h2.symm⟩
        | now =>
          injection hts with h1 h2
          injection h1 with h1
          subst h1
          exact ⟨[], rfl, l_now.symm, by decide, h2.symm⟩
      obtain ⟨r, _, hwn, hwc, hts2⟩ := hwk
      refine ifT ?_ ?_
      · show inV (.str (S wd)) CORE = true
        rw [inV_core]
        exact decide_eq_true hwc
      refine ⟨_, rfl, _, rfl, _, rfl, b0, _, dw, _, _, rfl, s1 _ _ ewd, T.c_Word, T.n_Word_name, wd_name, ?_⟩
      have elen2 : as'.length = (LT.trs ps).length := by
        rw [List.length_cons, List.length_cons, hts2] at elen
        omega
      obtain ⟨c1, c2⟩ := call_row (K := K) (F := F) elen2 fun j b t h1 h2 => eall' (j + 1) b t (by simpa using h1) (by rw [hts2]; simpa using h2)
      refine ⟨.ref m, a, dx, ta, dr, l, lb, i, m0, d0, d, as', b0, kd, by rw [hwn] <;> rfl, ha1, s1 _ _ eta, s1 _ _ el, hkd, by rw [c1]; exact hlen, fun H' f2 nr => fin H' f2 ⟨_, nr, c1, c2⟩⟩
  · have hkd : kd = .call := by
      cases kd with
      | call => rfl
      | pick =>
        injection hts with h1 h2
        injection h1 with h1
        subst h1
        rw [idx_core p.N p.e0 p.e1 (by decide)] at hx
        cases hx
      | now =>
        injection hts with h1 h2
        injection h1 with h1
        subst h1
        rw [idx_core p.N p.e0 p.e1 (by decide)] at hx
        cases hx
    refine ⟨_, rfl, rfl, _, rfl, ?_⟩
    refine ifF rfl ?_
    refine ifF rfl ?_
    refine ⟨_, rfl, rfl, _, rfl, ?_⟩
    refine ifT rfl ?_
    refine ⟨_, rfl, q, _, 0, _, rfl, rfl, SqT.of eq, atI_nat (j := 0) rfl, scal_str, _, rfl, ?_⟩
    refine ifF (by decide +kernel) ?_
    exact ⟨_, rfl, call hkd⟩
end
end Mh
namespace Mh
open PySem PySem.Spec PyProof.Rows L2 TL
section
variable {P : Program} {w : World} {K : PySem.W.Frag} {mg : Str → Option Value} {base : Heap}
/-! ### come_to -/
theorem sc_coto : FnScope ["maker", "spot", "tree"] ["maker", "spot"] (defScope s_come_to) := ⟨rfl, rfl, rfl, by decide +kernel, rfl, by decide +kernel, by decide +kernel⟩
def spCoTo (K : PySem.W.Frag) : Sp := fun vs H Q _ => ∃ (m cl ak rt wt a dx lb ta : Addr) (w0 w1 : Cs) (ys : List V) (d : Int) (lt : LT) (nm : List Cs) (n : Nat) (F : Hp), vs = [.ref m, .ref a] ∧ PreC K H m cl ak rt wt a dx lb ta w0 w1 ys d lt nm n F ∧
  ∀ (H' : Hp) (ys' : List V), Fr [a, ak] H H' → H' ak = some (.lst ys') → ys'.length ≤ ys.length + 1 → Done K H H' F a dx ta d lb lt → Q .non H'
theorem ok_coto (T : Txt K mg) : CallF P w K mg base 7 "come_to" ["maker", "spot"] [] (spCoTo K) := by
  obtain ⟨fd, F⟩ := T.f_come_to
  have g1 := (ok_settle (P := P) (w := w) (base := base) T).1
  have g2 := ok_coword (P := P) (w := w) (base := base) T
  have g3 := ok_isname (P := P) (w := w) (base := base) T
  have g4 := ok_cohead (P := P) (w := w) (base := base) T
  have g5 := ok_cocall (P := P) (w := w) (base := base) T
  refine ⟨_, fd, [], T.g_come_to, F.kp, F.bindsN (ps := ["maker", "spot"]) (fun _ _ _ _ _ _ us hl => match us, hl with | [_, _], _ => rfl), .nil, okN F sc_coto (fun vs H Q E h => ?_) fun cdv A outer s H vs Q E hr h => ?_⟩
  · obtain ⟨m, cl, ak, rt, wt, a, dx, lb, ta, w0, w1, ys, d, lt, nm, n, F, rfl, _⟩ := h
    rfl
  obtain ⟨m, cl, ak, rt, wt, a, dx, lb, ta, w0, w1, ys, d, lt, nm, n, F, rfl, p, k⟩ := h
  refine ⟨_, pss_cons (ps_set (i := 2) sc_coto.nd rfl (Or.inl rfl) (pe_fld (pv 1) rfl))
    (pss_one (ps_if (pt_val (pe_callB call_isi (by rfl) T.z_isinstance (by decide +kernel) (pa_cons (pv 2) (pa_cons (pgr T.g_Figure) pa_nil)))) (pss_one (ps_expr (pm g1 (pv 1) (hr.mono (by decide)) (pa_cons pe_str pa_nil))))
    (pss_one (ps_if (pt_val (pe_callB call_isi (by rfl) T.z_isinstance (by decide +kernel) (pa_cons (pv 2) (pa_cons (pgr T.g_Word) pa_nil)))) (pss_one (ps_expr (pf g2 (hr.mono (by decide)) (by rfl) (pa_cons (pv 0) (pa_cons (pv 1) pa_nil)))))
    (pss_one (ps_if (pt_cmpR (op_eq_nil (hu1 hr)) (pe_fld (pv 2) rfl) (pe_lst pa_nil) (nomark _)) (pss_one ps_never)
    (pss_one (ps_if (pt_val (pf g3 (hr.mono (by decide)) (by rfl) (pa_cons (pe_ix ix_list (pe_fld (pv 2) rfl) pe_int (fun _ _ => rfl)) pa_nil))) (pss_one (ps_expr (pf g4 hr (by rfl) (pa_cons (pv 0) (pa_cons (pv 1) pa_nil)))))
      (pss_one (ps_expr (pf g5 (hr.mono (by decide)) (by rfl) (pa_cons (pv 1) pa_nil)))))))))))), ?_⟩
  have htr := p.tr
  have htH := htr.mono p.sf
  have nak : a ≠ ak := ne_of p.ha p.M.eak (by intro z; cases z)
  refine ⟨_, rfl, a, _, dx, _, _, rfl, p.ha, T.c_Spot, T.n_Spot_tree, sp_tree, ?_⟩
  cases lt with
  | num z =>
    obtain ⟨df, jf, ef⟩ : ∃ (df : Addr) (jf : Int), H ta = some (.ins (cF K) df (fgF jf z)) := by
      cases htH with
      | fig e => exact ⟨_, _, e⟩
    refine ⟨_, rfl, _, _, _, _, true, rfl, .own _, ty_fig T ef, kit_same, _, rfl, ?_⟩
    refine ifT rfl ?_
    refine ⟨_, rfl, a, dx, _, rfl, p.ha, sp_settle, ?_⟩
    refine ⟨a, dx, _, _, _, _, _, _, _, _, rfl, p.ha, ?_⟩
    exact k _ ys (Fr.put (.inl (by simp))) ((upd_ne nak.symm).trans p.M.eak) (by omega) upd_same
  | seen kk wd =>
    obtain ⟨df, jf, ef⟩ : ∃ (df : Addr) (jf : Int), H ta = some (.ins (cW K) df (wdF jf (S wd))) := by
      cases htH with
      | word e => exact ⟨_, _, e⟩
    refine ⟨_, rfl, _, _, _, _, false, rfl, .own _, ty_word T ef, T.exP.wf, _, rfl, ?_⟩
    refine ifF rfl ?_
    refine ⟨_, rfl, _, _, _, _, true, rfl, .own _, ty_word T ef, kit_same, _, rfl, ?_⟩
    refine ifT rfl ?_
    exact ⟨_, rfl, _, rfl, m, cl, ak, rt, wt, a, dx, lb, ta, w0, w1, ys, d, _, nm, n, F, rfl, p, trivial, k⟩
  | free wd =>
    obtain ⟨df, jf, ef⟩ : ∃ (df : Addr) (jf : Int), H ta = some (.ins (cW K) df (wdF jf (S wd))) := by
      cases htH with
      | word e => exact ⟨_, _, e⟩
    refine ⟨_, rfl, _, _, _, _, false, rfl, .own _, ty_word T ef, T.exP.wf, _, rfl, ?_⟩
    refine ifF rfl ?_
    refine ⟨_, rfl, _, _, _, _, true, rfl, .own _, ty_word T ef, kit_same, _, rfl, ?_⟩
    refine ifT rfl ?_
    exact ⟨_, rfl, _, rfl, m, cl, ak, rt, wt, a, dx, lb, ta, w0, w1, ys, d, _, nm, n, F, rfl, p, trivial, k⟩
  | node kd ps =>
    rw [show (LT.node kd ps).tr = .row (kd.tr ++ LT.trs ps) from rfl] at htr
    obtain ⟨dr, l, i, m0, d0, as, eta, el, elen, eall⟩ := htr.rowF
    obtain ⟨n', _, hlen, hps⟩ := p.ok.node
    have hpos := hlen.pos
    have etaH := p.sf _ _ eta
    have elH := p.sf _ _ el
    refine ⟨_, rfl, _, _, _, _, false, rfl, .own _, ty_row T etaH, T.exP.rf, _, rfl, ?_⟩
    refine ifF rfl ?_
    refine ⟨_, rfl, _, _, _, _, false, rfl, .own _, ty_row T etaH, T.exP.rw_, _, rfl, ?_⟩
    refine ifF rfl ?_
    obtain ⟨b0, as', rfl⟩ : ∃ b0 as', as = b0 :: as' := by
      cases as with
      | nil =>
        rw [List.length_append, trs_map, List.length_map] at elen
        simp at elen
        omega
      | cons x r => exact ⟨x, r, rfl⟩
    obtain ⟨t0, ts, hts⟩ : ∃ t0 ts, kd.tr ++ LT.trs ps = t0 :: ts := by
      cases q : kd.tr ++ LT.trs ps with
      | nil => rw [q] at elen; cases elen
      | cons x r => exact ⟨x, r, rfl⟩
    have tb0 := eall 0 b0 t0 rfl (by rw [hts] <;> rfl)
    refine ⟨_, rfl, ta, _, dr, _, _, rfl, etaH, T.c_Row, T.n_Row_parts, rw_parts, Nat.zero_le _, fun q hq => ?_⟩
    have s1 : Same H (upd H q (.lst [])) := Same.put hq
    refine ⟨l, q, _, rfl, rfl, SqL.of (s1 _ _ elH), upd_same, (fun e => by rw [e] at elH; rw [elH] at hq; cases hq), ?_⟩
    refine ⟨_, rfl, ?_⟩
    refine ifF rfl ?_
    have q1 : upd H q (.lst []) q = some (.lst []) := upd_same
    generalize upd H q (.lst []) = H1 at s1 q1
    have p1 : PreC K H1 m cl ak rt wt a dx lb ta w0 w1 ys d (.node kd ps) nm n F := ⟨p.M.fr (Fr.of_same s1) (s1 _ _ p.M.eak), p.hys, s1 _ _ p.ha, p.N, p.e0, p.e1, p.ok, p.tr, fun b o e => s1 _ _ (p.sf _ _ e), p.fak, p.fa⟩
    have hL : ∀ b ∈ [a, ak], H1 b ≠ none := by
      intro b hb
      rcases List.mem_cons.mp hb with rfl | hb
      · rw [p1.ha]; simp
      · rw [List.mem_singleton.mp hb, p1.M.eak]; simp
    have k1 : ∀ (H' : Hp) (ys' : List V), Fr [a, ak] H1 H' → H' ak = some (.lst ys') → ys'.length ≤ ys.length + 1 → Done K H1 H' F a dx ta d lb (.node kd ps) → Q .non H' := fun H' ys' f e l dn => by
      refine k H' ys' ((Fr.of_same s1).trans f) e l ?_
      obtain ⟨bs, nr, h1, h2⟩ := dn
      exact ⟨bs, nr.back (Fr.of_same s1) hL, h1, h2⟩
    refine ⟨_, rfl, ta, _, dr, _, _, rfl, s1 _ _ etaH, T.c_Row, T.n_Row_parts, rw_parts, l, _, 0, _, rfl, rfl, SqL.of (s1 _ _ elH), atI_nat (j := 0) rfl, b0, t0, rfl, (tb0.mono p.sf).mono s1, ?_⟩
    by_cases hn : nmB t0 = true
    · rw [hn]
      refine ⟨_, rfl, ?_⟩
      refine ifT rfl ?_
      cases t0 with
      | word wd => exact ⟨_, rfl, _, rfl, m, cl, ak, rt, wt, a, dx, lb, ta, w0, w1, ys, d, kd, ps, nm, n, F, wd, ts, rfl, p1, hts, k1⟩
      | fig _ => cases hn
      | row _ => cases hn
    · rw [Bool.not_eq_true] at hn
      rw [hn]
      refine ⟨_, rfl, ?_⟩
      refine ifF rfl ?_
      have hkd : kd = .call := by
        cases kd with
        | call => rfl
        | pick =>
          injection hts with h1 h2
          rw [← h1, nmB_word wPick_ok] at hn
          cases hn
        | now =>
          injection hts with h1 h2
          rw [← h1, nmB_word wNow_ok] at hn
          cases hn
      subst hkd
      rw [show Kd.call.tr ++ LT.trs ps = LT.trs ps from rfl] at eall elen
      obtain ⟨c1, c2⟩ := call_row elen eall
      refine ⟨_, rfl, a, dx, ta, dr, l, lb, i, m0, d0, d, b0 :: as', rfl, p1.ha, s1 _ _ etaH, s1 _ _ elH, by rw [c1]; omega, fun H' f2 nr => ?_⟩
      exact k1 H' ys (f2.mono (by intro b hb; simp only [List.mem_singleton] at hb; simp [hb])) (f2 _ _ p1.M.eak (by simpa using nak.symm)) (by omega) ⟨_, nr, c1, c2⟩
end
end Mh
namespace Mh
open PySem PySem.Spec PyProof.Rows L2 TL
theorem Mk2.step {K : PySem.W.Frag} {H H' : Hp} {m cl ak rt wt wt' a dx : Addr} {w0 w1 : Cs} {ys ys' : List V} {t d k g c b : V} (M : Mk2 K H m cl ak rt wt w0 w1 ys) (ha : H a = some (.ins (cS K) dx (spF t d k g c b))) (f : Fr [a, ak, m] H H')
    (em : ∃ dx a1 a2 a3 : Addr, H' m = some (.ins (cM K) dx (mkF (.ref cl) (.ref a1) (.ref a2) (.ref a3) (.ref ak) (.ref rt) (.ref wt') (.int 2) (.int 2)))) (e : H' ak = some (.lst ys')) : Mk2 K H' m cl ak rt wt' w0 w1 ys' := by
  refine ⟨em, ⟨?_, M.ecl.ne⟩, e⟩
  obtain ⟨dc, r, r0, r1, q0, q1, h1, h2, h3, h4, h5, h6⟩ := M.ecl.ex
  obtain ⟨dm, b1, b2, b3, hm⟩ := M.eob
  have hk := M.eak
  have go : ∀ (b : Addr) (o : HO), mask (fun b => b = ak) H b = some o → b ≠ a → b ≠ m → mask (fun b => b = ak) H' b = some o := fun b o h n1 n2 => by
    obtain ⟨n3, h'⟩ := mask_some h
    exact mask_mk n3 (f b o h' (by simp [n1, n2]; exact n3))
  have fld : ∀ {b : Addr} {o : HO}, mask (fun b => b = ak) H b = some o → (∀ C dx fs, o ≠ .ins C dx fs) → mask (fun b => b = ak) H' b = some o := fun {b o} h ho => by
    obtain ⟨n3, h'⟩ := mask_some h
    refine go b o h (fun z => ?_) fun z => ?_
    · rw [z, ha] at h'
      exact ho _ _ _ (Option.some.inj h').symm
    · rw [z, hm] at h'
      exact ho _ _ _ (Option.some.inj h').symm
  have hc := (mask_some h1).2
  exact ⟨dc, r, r0, r1, q0, q1, go _ _ h1 (ne_of hc ha (by intro z; injection z with z1 z2 z3; cases z3)) (ne_of hc hm (by intro z; injection z with z1 z2 z3; cases z3)), fld h2 (by intro C dx fs z; cases z), fld h3 (by intro C dx fs z; cases z), fld h4 (by intro C dx fs z; cases z), fld h5 (by intro C dx fs z; cases z), fld h6 (by intro C dx fs z; cases z)⟩
/-- what the spot is behind its turn, bs the spots below it -/
def DoneT (K : PySem.W.Frag) (H H' F : Hp) (a dx ta : Addr) (d : Int) (lb : Addr) (bs : List Addr) : LT → Prop
  | .num _ => bs = [] ∧ H' a = some (.ins (cS K) dx (spF (.ref ta) (.int d) (.str "num") .non .non (.ref lb)))
  | .seen k _ => bs = [] ∧ H' a = some (.ins (cS K) dx (spF (.ref ta) (.int d) (.str "seen") (.int (k : Nat)) (.int (k : Nat)) (.ref lb)))
  | .free _ => bs = [] ∧ H' a = some (.ins (cS K) dx (spF (.ref ta) (.int d) (.str "free") .non .non (.ref lb)))
  | .node kd ps => ∃ lb', H' a = some (.ins (cS K) dx (spF (.ref ta) (.int d) (.str kd.nm) .non .non (.ref lb'))) ∧ H lb' = none ∧ H' lb' = some (.lst (bs.map V.ref)) ∧ bs.Nodup ∧ bs.length = ps.length ∧
    ∀ (j : Nat) s p, bs[j]? = some s → ps[j]? = some p → ∃ tb, NewSp K H H' (.ref tb) (d + 1) s ∧ TreeAt K F tb p.tr
/-- the spot's fields behind come_to -/
theorem Done.fields {K : PySem.W.Frag} {H H1 F : Hp} {a dx ta lb : Addr} {d : Int} {lt : LT} (h : Done K H H1 F a dx ta d lb lt) (hlb : H1 lb = some (.lst [])) :
    ∃ (kn : Str) (g c : V) (l : Addr) (bs : List Addr), H1 a = some (.ins (cS K) dx (spF (.ref ta) (.int d) (.str kn) g c (.ref l))) ∧ decide (V.str kn = V.str "open") = false ∧ H1 l = some (.lst (bs.map V.ref)) ∧ bs.length ≤ (match lt with | .node _ ps => ps.length | _ => 0) ∧
      ∀ H', (∀ b o, H1 b = some o → (H b = none ∨ b = a) → H' b = some o) → DoneT K H H' F a dx ta d lb bs lt := by
  cases lt with
  | num z => exact ⟨_, _, _, lb, [], h, by decide +kernel, hlb, Nat.le_refl _, fun H' f => ⟨rfl, f _ _ h (.inr rfl)⟩⟩
  | seen kk wd => exact ⟨_, _, _, lb, [], h, by decide +kernel, hlb, Nat.le_refl _, fun H' f => ⟨rfl, f _ _ h (.inr rfl)⟩⟩
  | free wd => exact ⟨_, _, _, lb, [], h, by decide +kernel, hlb, Nat.le_refl _, fun H' f => ⟨rfl, f _ _ h (.inr rfl)⟩⟩
  | node kd ps =>
    obtain ⟨as, nr, h1, h2⟩ := h
    obtain ⟨l, ss, e1, e2, e3, e4, e5, e6⟩ := nr.ex
    refine ⟨_, _, _, l, ss, e1, by cases kd <;> decide +kernel, e3, by show ss.length ≤ ps.length; omega, fun H' f => ⟨l, f _ _ e1 (.inr rfl), e2, f _ _ e3 (.inl e2), e4, by omega, fun j s p q1 q2 => ?_⟩⟩
    have hj : j < as.length := by
      have := (List.getElem?_eq_some_iff.mp q1).1
      omega
    have q3 : as[j]? = some as[j] := List.getElem?_eq_getElem hj
    obtain ⟨dx1, lb1, f1, f2, f3, f4⟩ := (e6 j s _ q1 q3).ex
    exact ⟨as[j], ⟨dx1, lb1, f1, f2, f _ _ f3 (.inl f1), f _ _ f4 (.inl f2)⟩, h2 j _ p q3 q2⟩
theorem cut_none0 (xs : List V) : cutV xs none (some 0) = [] := by
  unfold cutV
  rw [HT.sIx_none]
  have e : HT.sIx xs.length xs.length (some 0) = 0 := (HT.sIx_nat xs.length xs.length 0).trans (Nat.zero_min _)
  rw [e] <;> rfl
section
variable {P : Program} {w : World} {K : PySem.W.Frag} {mg : Str → Option Value} {base : Heap}
/-! ### turn -/
theorem sc_turn : FnScope ["maker", "pick", "index", "spot", "rest"] ["maker", "pick"] (defScope s_turn) := ⟨rfl, rfl, rfl, by decide +kernel, rfl, by decide +kernel, by decide +kernel⟩
def spTurn (K : PySem.W.Frag) : Sp := fun vs H Q _ => ∃ (m cl ak rt wt : Addr) (w0 w1 : Cs) (ys : List V) (pk : Int), vs = [.ref m, .int pk] ∧ Mk2 K H m cl ak rt wt w0 w1 ys ∧
  ((H wt = some (.lst []) ∧ ∀ H', Same H H' → Q .non H') ∨
   ∃ (a dx lb ta : Addr) (d : Int) (lt : LT) (nm : List Cs) (n : Nat) (F : Hp) (rs : List V), pk = 0 ∧ H wt = some (.lst (.ref a :: rs)) ∧ rs.length ≤ 5000 ∧ PreC K H m cl ak rt wt a dx lb ta w0 w1 ys d lt nm n F ∧ F lb = some (.lst []) ∧ wt ≠ ak ∧
    ∀ (H' : Hp) (wt' : Addr) (ys' : List V) (bs : List Addr), Fr [a, ak, m] H H' → Mk2 K H' m cl ak rt wt' w0 w1 ys' → ys'.length ≤ ys.length + 1 → H wt' = none → H' wt' = some (.lst (bs.map V.ref ++ rs)) → DoneT K H H' F a dx ta d lb bs lt → Q .non H')
theorem ok_turn (T : Txt K mg) : CallF P w K mg base 8 "turn" ["maker", "pick"] [] (spTurn K) := by
  obtain ⟨fd, F⟩ := T.f_turn
  have g1 := ok_coto (P := P) (w := w) (base := base) T
  refine ⟨_, fd, [], T.g_turn, F.kp, F.bindsN (ps := ["maker", "pick"]) (fun _ _ _ _ _ _ us hl => match us, hl with | [_, _], _ => rfl), .nil, okN F sc_turn (fun vs H Q E h => ?_) fun cdv A outer s H vs Q E hr h => ?_⟩
  · obtain ⟨m, cl, ak, rt, wt, w0, w1, ys, pk, rfl, _⟩ := h
    rfl
  obtain ⟨m, cl, ak, rt, wt, w0, w1, ys, pk, rfl, M, h⟩ := h
  refine ⟨_, pss_cons (ps_if (pt_cmpR (op_eq_nil (hu1 hr)) (pe_fld (pv 0) rfl) (pe_lst pa_nil) (nomark _)) (pss_one ps_retN) pss_nil)
    (pss_cons (ps_set (i := 2) sc_turn.nd rfl (Or.inl rfl) (pe_op op_mod (pv 1) (pe_callB call_len_seq (by rfl) T.z_len PySem.boot_len (pa_cons (pe_fld (pv 0) rfl) pa_nil))))
    (pss_cons (ps_set (i := 3) sc_turn.nd rfl (Or.inl rfl) (pe_ix ix_list (pe_fld (pv 0) rfl) (pv 2) (fun _ _ => rfl)))
    (pss_cons (ps_expr (pf g1 hr (by rfl) (pa_cons (pv 0) (pa_cons (pv 3) pa_nil))))
    (pss_cons (ps_set (i := 4) sc_turn.nd rfl (Or.inl rfl) (pe_fld (pv 3) rfl))
    (pss_cons (ps_if (pt_cmpR op_eq (pe_fld (pv 3) rfl) pe_str (nomark _)) (pss_one ps_never) pss_nil)
    (pss_one (ps_fld (pv 0) (pe_op op_cat (pe_op op_cat (pe_slice sl_list (pe_fld (pv 0) rfl) po_none (po_some (pv 2))) (pv 4)) (pe_slice sl_list (pe_fld (pv 0) rfl) (po_some (pe_op op_add (pv 2) pe_int)) po_none)) rfl))))))), ?_⟩
  obtain ⟨dm, a1, a2, a3, hm⟩ := id M.eob
  refine ⟨_, rfl, m, _, dm, _, _, rfl, hm, T.c_Maker, T.n_Maker_waiting, mk_waiting, Nat.zero_le _, fun q hq => ?_⟩
  have s0 : Same H (upd H q (.lst [])) := Same.put hq
  have q0 : upd H q (.lst []) q = some (.lst []) := upd_same
  rcases h with ⟨hw, k⟩ | ⟨a, dx, lb, ta, d, lt, nm, n, F, rs, rfl, hw, hrs, p, hlb, nwk, k⟩
  · refine ⟨wt, q, [], rfl, rfl, SqL.of (s0 _ _ hw), upd_same, (fun e => by rw [e] at hw; rw [hw] at hq; cases hq), ?_⟩
    refine ⟨_, rfl, ?_⟩
    refine ifT rfl ?_
    exact k _ s0
  refine ⟨wt, q, _, rfl, rfl, SqL.of (s0 _ _ hw), upd_same, (fun e => by rw [e] at hw; rw [hw] at hq; cases hq), ?_⟩
  refine ⟨_, rfl, ?_⟩
  refine ifF rfl ?_
  show tSeq _ _ _ _ (upd H q (.lst []))
  generalize upd H q (.lst []) = H0 at s0 q0
  have hm0 := s0 _ _ hm
  have hw0 := s0 _ _ hw
  refine ⟨_, rfl, _, rfl, m, _, dm, _, _, rfl, hm0, T.c_Maker, T.n_Maker_waiting, mk_waiting, wt, _, rfl, .inl (SqL.of hw0), 0, _, rfl, rfl, (by rw [List.length_cons]; omega), ?_⟩
  show Ends.nx _ (List.set _ 2 (some (V.int (0 % _)))) _
  rw [Int.zero_emod]
  refine ⟨_, rfl, m, _, dm, _, _, rfl, hm0, T.c_Maker, T.n_Maker_waiting, mk_waiting, _, rfl, wt, _, 0, _, rfl, rfl, SqL.of hw0, atI_nat (j := 0) rfl, ?_⟩
  have p1 : PreC K H0 m cl ak rt wt a dx lb ta w0 w1 ys d lt nm n F := ⟨p.M.fr (Fr.of_same s0) (s0 _ _ p.M.eak), p.hys, s0 _ _ p.ha, p.N, p.e0, p.e1, p.ok, p.tr, fun b o e => s0 _ _ (p.sf _ _ e), p.fak, p.fa⟩
  refine ⟨_, rfl, _, rfl, m, cl, ak, rt, wt, a, dx, lb, ta, w0, w1, ys, d, lt, nm, n, F, rfl, p1, fun H1 ys1 f1 e1 l1 dn => ?_⟩
  have f01 : Fr [a, ak] H H1 := (Fr.of_same s0).trans f1
  have nma : m ≠ a := ne_of hm p.ha (by intro z; injection z with z1 z2 z3; cases z3)
  have nmk : m ≠ ak := ne_of hm p.M.eak (by intro z; cases z)
  have nwa : wt ≠ a := ne_of hw p.ha (by intro z; cases z)
  have nwm : wt ≠ m := ne_of hw hm (by intro z; cases z)
  have nak : a ≠ ak := ne_of p.ha p.M.eak (by intro z; cases z)
  have hm1 := f01 _ _ hm (by simp [nma, nmk])
  have hw1 := f01 _ _ hw (by simp [nwa, nwk])
  have sf1 : Same F H1 := f01.same2 p.sf p.fa p.fak
  have lb1 := sf1 _ _ hlb
  have hL : ∀ b ∈ [a, ak], H0 b ≠ none := by
    intro b hb
    rcases List.mem_cons.mp hb with rfl | hb
    · rw [p1.ha]; simp
    · rw [List.mem_singleton.mp hb, p1.M.eak]; simp
  have dn' : Done K H H1 F a dx ta d lb lt := by
    cases lt with
    | node kd ps =>
      obtain ⟨bs, nr, h1, h2⟩ := dn
      exact ⟨bs, nr.back (Fr.of_same s0) hL, h1, h2⟩
    | num _ => exact dn
    | seen _ _ => exact dn
    | free _ => exact dn
  obtain ⟨kn, g, c, l, bs, ea, ekn, el, eln, fin⟩ := dn'.fields lb1
  have hbs : bs.length ≤ 4 := by
    cases lt with
    | node kd ps =>
      obtain ⟨n', _, hlen, _⟩ := p.ok.node
      have hpos := hlen.pos
      have : bs.length ≤ ps.length := eln
      omega
    | num _ => have : bs.length ≤ 0 := eln; omega
    | seen _ _ => have : bs.length ≤ 0 := eln; omega
    | free _ => have : bs.length ≤ 0 := eln; omega
  refine ⟨_, rfl, a, _, dx, _, _, rfl, ea, T.c_Spot, T.n_Spot_below, sp_below, ?_⟩
  refine ⟨_, rfl, a, _, dx, _, _, rfl, ea, T.c_Spot, T.n_Spot_kind, sp_kind, scal_str, _, rfl, ?_⟩
  refine ifF ekn ?_
  refine ⟨_, rfl, m, _, dm, _, _, rfl, hm1, T.c_Maker, T.n_Maker_waiting, mk_waiting, _, rfl, 0, rfl, wt, _, rfl, SqL.of hw1, fun p2 hp2 => ?_⟩
  have s2 : Same H1 (upd H1 p2 (.lst (cutV (.ref a :: rs) none (some 0)))) := Same.put hp2
  have v2 : upd H1 p2 (.lst (cutV (.ref a :: rs) none (some 0))) p2 = some (.lst []) := by rw [upd_same, cut_none0]
  generalize upd H1 p2 (.lst (cutV (.ref a :: rs) none (some 0))) = H2 at s2 v2
  refine ⟨_, rfl, p2, l, [], bs.map V.ref, rfl, rfl, v2, s2 _ _ el, sl1000' (by simp; omega), fun p3 hp3 => ?_⟩
  have s3 : Same H2 (upd H2 p3 (.lst ([] ++ bs.map V.ref))) := Same.put hp3
  have v3 : upd H2 p3 (.lst ([] ++ bs.map V.ref)) p3 = some (.lst (bs.map V.ref)) := upd_same
  generalize upd H2 p3 (.lst ([] ++ bs.map V.ref)) = H3 at s3 v3
  refine ⟨_, rfl, m, _, dm, _, _, rfl, s3 _ _ (s2 _ _ hm1), T.c_Maker, T.n_Maker_waiting, mk_waiting, _, rfl, 0, 1, rfl, rfl, 1, rfl, wt, _, rfl, SqL.of (s3 _ _ (s2 _ _ hw1)), fun p4 hp4 => ?_⟩
  have s4 : Same H3 (upd H3 p4 (.lst (cutV (.ref a :: rs) (some 1) none))) := Same.put hp4
  have v4 : upd H3 p4 (.lst (cutV (.ref a :: rs) (some 1) none)) p4 = some (.lst rs) := by
    rw [upd_same]
    exact congrArg (fun z => some (HO.lst z)) (cut_tail (.ref a) rs)
  generalize upd H3 p4 (.lst (cutV (.ref a :: rs) (some 1) none)) = H4 at s4 v4
  refine ⟨p3, p4, bs.map V.ref, rs, rfl, rfl, s4 _ _ v3, v4, slz (by simp; omega), fun p5 hp5 => ?_⟩
  have s5 : Same H4 (upd H4 p5 (.lst (bs.map V.ref ++ rs))) := Same.put hp5
  have v5 : upd H4 p5 (.lst (bs.map V.ref ++ rs)) p5 = some (.lst (bs.map V.ref ++ rs)) := upd_same
  generalize upd H4 p5 (.lst (bs.map V.ref ++ rs)) = H5 at s5 v5
  have s15 : Same H1 H5 := ((s2.trans s3).trans s4).trans s5
  have hm5 := s15 _ _ hm1
  refine ⟨_, rfl, m, _, dm, _, rfl, hm5, T.c_Maker, T.n_Maker_waiting, (by show 10 < 1000; decide), ?_⟩
  rw [mk_p_waiting]
  have f05 : Fr [a, ak, m] H (upd H5 m (.ins (cM K) dm (mkF (.ref cl) (.ref a1) (.ref a2) (.ref a3) (.ref ak) (.ref rt) (.ref p5) (.int 2) (.int 2)))) := ((f01.trans (Fr.of_same s15)).mono (by intro b hb; simp only [List.mem_cons, List.not_mem_nil, or_false] at hb ⊢; rcases hb with rfl | rfl <;> simp)).trans (Fr.put (.inl (by simp)))
  have n5m : p5 ≠ m := ne_of v5 hm5 (by intro z; cases z)
  have h5n : H p5 = none := by
    refine free_back (L := [a, ak]) (f01.trans (Fr.of_same (((s2.trans s3).trans s4)))) ?_ hp5
    intro b hb
    rcases List.mem_cons.mp hb with rfl | hb
    · rw [s4 _ _ (s3 _ _ (s2 _ _ ea))]; simp
    · rw [List.mem_singleton.mp hb, s4 _ _ (s3 _ _ (s2 _ _ e1))]; simp
  refine k _ p5 ys1 bs f05 (p.M.step p.ha f05 ⟨dm, a1, a2, a3, upd_same⟩ ((upd_ne nmk.symm).trans (s15 _ _ e1))) l1 h5n ((upd_ne n5m).trans v5) ?_
  refine fin _ fun b o e hb => ?_
  have nb : b ≠ m := by
    rintro rfl
    rcases hb with hb | hb
    · rw [hm] at hb; cases hb
    · exact nma hb
  rw [upd_ne nb]
  exact s15 _ _ e
end
end Mh
namespace Mh
open PySem PySem.Spec PyProof.Rows L2 TL
/-! ### all spots at once: what waits, what is done -/
def chs : LT → List LT
  | .node _ ps => ps
  | _ => []
theorem turns_chs (t : LT) : t.turns = 1 + ((chs t).map LT.turns).sum := by
  cases t with
  | node kd ps =>
    show 1 + LT.turnss ps = _
    rw [turnss_map] <;> rfl
  | num _ => rfl
  | seen _ _ => rfl
  | free _ => rfl
theorem chs_ok {nm : List Cs} {n : Nat} {t : LT} (h : LOk nm n t) : ∀ p ∈ chs t, LOk nm n p := by
  cases t with
  | node kd ps =>
    obtain ⟨k, rfl, _, hp⟩ := h.node
    exact fun p hp' => (hp p hp').mono (by omega)
  | num _ => exact fun p hp => by cases hp
  | seen _ _ => exact fun p hp => by cases hp
  | free _ => exact fun p hp => by cases hp
/-- the spot at a keeps the tree; the spots of W still wait -/
inductive Comp (K : PySem.W.Frag) (F : Hp) (W : List (Addr × LT)) : Addr → LT → Prop where
  | opn {a : Addr} {t : LT} : (a, t) ∈ W → Comp K F W a t
  | num {a dx ta lb : Addr} {d n : Int} {g c : V} : F a = some (.ins (cS K) dx (spF (.ref ta) (.int d) (.str "num") g c (.ref lb))) → F lb = some (.lst []) → TreeAt K F ta (.fig n) → Comp K F W a (.num n)
  | seen {a dx ta lb : Addr} {d : Int} {k : Nat} {w : Cs} {c : V} : F a = some (.ins (cS K) dx (spF (.ref ta) (.int d) (.str "seen") (.int k) c (.ref lb))) → F lb = some (.lst []) → Comp K F W a (.seen k w)
  | free {a dx ta lb : Addr} {d : Int} {w : Cs} {g c : V} : F a = some (.ins (cS K) dx (spF (.ref ta) (.int d) (.str "free") g c (.ref lb))) → F lb = some (.lst []) → TreeAt K F ta (.word w) → Comp K F W a (.free w)
  | node {a dx ta lb : Addr} {d : Int} {kd : Kd} {ps : List LT} {g c : V} {ss : List Addr} : F a = some (.ins (cS K) dx (spF (.ref ta) (.int d) (.str kd.nm) g c (.ref lb))) → F lb = some (.lst (ss.map V.ref)) → ss.length = ps.length →
      (∀ (j : Nat) s p, ss[j]? = some s → ps[j]? = some p → Comp K F W s p) → Comp K F W a (.node kd ps)
theorem Comp.step {K : PySem.W.Frag} {F F' : Hp} {W W' : List (Addr × LT)} (s : Same F F') (h : ∀ a t, (a, t) ∈ W → Comp K F' W' a t) {a : Addr} {t : LT} (c : Comp K F W a t) : Comp K F' W' a t := by
  induction c with
  | opn e => exact h _ _ e
  | num e1 e2 e3 => exact .num (s _ _ e1) (s _ _ e2) (e3.mono s)
  | seen e1 e2 => exact .seen (s _ _ e1) (s _ _ e2)
  | free e1 e2 e3 => exact .free (s _ _ e1) (s _ _ e2) (e3.mono s)
  | node e1 e2 e3 _ ih => exact .node (s _ _ e1) (s _ _ e2) e3 fun j b p h1 h2 => ih j b p h1 h2
/-- the part of the heap that no turn touches -/
noncomputable def frz (m ak : Addr) (W : List (Addr × LT)) (H : Hp) : Hp := mask (fun b => b = m ∨ b = ak ∨ b ∈ W.map Prod.fst) H
structure OpenAt (K : PySem.W.Frag) (H F : Hp) (nm : List Cs) (a : Addr) (t : LT) : Prop where
  ex : ∃ (dx ta lb : Addr) (d : Int), H a = some (.ins (cS K) dx (spF (.ref ta) (.int d) (.str "open") .non .non (.ref lb))) ∧ F lb = some (.lst []) ∧ TreeAt K F ta t.tr
  ok : LOk nm 4 t
structure WkInv (K : PySem.W.Frag) (H : Hp) (m cl ak rt wt : Addr) (w0 w1 : Cs) (ys : List V) (nm : List Cs) (W : List (Addr × LT)) (roots : List Addr) (ts : List LT) : Prop where
  M : Mk2 K H m cl ak rt wt w0 w1 ys
  N : Names nm
  e0 : nm[0]? = some w0
  e1 : nm[1]? = some w1
  ewt : H wt = some (.lst (W.map fun p => V.ref p.1))
  nwk : wt ≠ ak
  nd : (W.map Prod.fst).Nodup
  op : ∀ p ∈ W, OpenAt K H (frz m ak W H) nm p.1 p.2
  ert : frz m ak W H rt = some (.lst (roots.map V.ref))
  rl : roots.length = ts.length
  cp : ∀ (j : Nat) r t, roots[j]? = some r → ts[j]? = some t → Comp K (frz m ak W H) W r t ∧ LOk nm 4 t
theorem zip_fst {bs : List Addr} {ps : List LT} (h : bs.length = ps.length) : (bs.zip ps).map Prod.fst = bs := List.map_fst_zip (by omega)
theorem zip_snd {bs : List Addr} {ps : List LT} (h : bs.length = ps.length) : (bs.zip ps).map Prod.snd = ps := List.map_snd_zip (by omega)
theorem zip_mem {bs : List Addr} {ps : List LT} {x : Addr × LT} (h : x ∈ bs.zip ps) : ∃ j : Nat, bs[j]? = some x.1 ∧ ps[j]? = some x.2 := by
  obtain ⟨j, hj, e⟩ := List.mem_iff_getElem.mp h
  rw [List.length_zip] at hj
  refine ⟨j, ?_, ?_⟩
  · rw [List.getElem?_eq_getElem (by omega)]
    rw [← e, List.getElem_zip]
  · rw [List.getElem?_eq_getElem (by omega)]
    rw [← e, List.getElem_zip]
theorem mem_zip {bs : List Addr} {ps : List LT} {j : Nat} {s : Addr} {p : LT} (h1 : bs[j]? = some s) (h2 : ps[j]? = some p) : (s, p) ∈ bs.zip ps := by
  have : (bs.zip ps)[j]? = some (s, p) := by rw [List.getElem?_zip_eq_some]; exact ⟨h1, h2⟩
  exact List.mem_of_getElem? this
theorem DoneT.kids {K : PySem.W.Frag} {H H' F : Hp} {a dx ta lb : Addr} {d : Int} {bs : List Addr} {t : LT} (h : DoneT K H H' F a dx ta d lb bs t) : bs.length = (chs t).length ∧ bs.Nodup ∧
    ∀ (j : Nat) s p, bs[j]? = some s → (chs t)[j]? = some p → ∃ tb, NewSp K H H' (.ref tb) (d + 1) s ∧ TreeAt K F tb p.tr := by
  cases t with
  | node kd ps =>
    obtain ⟨_, _, _, _, h1, h2, h3⟩ := h
    exact ⟨h2, h1, h3⟩
  | num _ => rw [h.1]; exact ⟨rfl, List.nodup_nil, fun j s p e => by simp at e⟩
  | seen _ _ => rw [h.1]; exact ⟨rfl, List.nodup_nil, fun j s p e => by simp at e⟩
  | free _ => rw [h.1]; exact ⟨rfl, List.nodup_nil, fun j s p e => by simp at e⟩
theorem WkInv.step {K : PySem.W.Frag} {H H' : Hp} {m cl ak rt wt wt' a dx ta lb : Addr} {w0 w1 : Cs} {ys ys' : List V} {nm : List Cs} {W : List (Addr × LT)} {roots bs : List Addr} {ts : List LT} {t : LT} {d : Int}
    (I : WkInv K H m cl ak rt wt w0 w1 ys nm ((a, t) :: W) roots ts) (ha : H a = some (.ins (cS K) dx (spF (.ref ta) (.int d) (.str "open") .non .non (.ref lb)))) (hlb : frz m ak ((a, t) :: W) H lb = some (.lst [])) (hta : TreeAt K (frz m ak ((a, t) :: W) H) ta t.tr)
    (f : Fr [a, ak, m] H H') (M' : Mk2 K H' m cl ak rt wt' w0 w1 ys') (hw : H wt' = none) (ew : H' wt' = some (.lst (bs.map V.ref ++ W.map fun p => V.ref p.1)))
    (dn : DoneT K H H' (frz m ak ((a, t) :: W) H) a dx ta d lb bs t) :
    WkInv K H' m cl ak rt wt' w0 w1 ys' nm (bs.zip (chs t) ++ W) roots ts ∧ Same (frz m ak ((a, t) :: W) H) (frz m ak (bs.zip (chs t) ++ W) H') := by
  obtain ⟨hbl, hbn, hkid⟩ := dn.kids
  have hnd := I.nd
  rw [List.map_cons, List.nodup_cons] at hnd
  obtain ⟨haW, hWn⟩ := hnd
  obtain ⟨dm, b1, b2, b3, hm⟩ := I.M.eob
  have hk := I.M.eak
  have nma : m ≠ a := ne_of hm ha (by intro z; injection z with z1 z2 z3; cases z3)
  have nak : a ≠ ak := ne_of ha hk (by intro z; cases z)
  -- the new spots stand where nothing stood
  have fresh : ∀ s ∈ bs, H s = none := fun s hs => by
    obtain ⟨j, hj, e⟩ := List.mem_iff_getElem.mp hs
    obtain ⟨tb, n, _⟩ := hkid j s (chs t)[j] (by rw [List.getElem?_eq_getElem hj, e]) (List.getElem?_eq_getElem (by omega))
    obtain ⟨_, _, h1, _⟩ := n.ex
    exact h1
  have inW : ∀ b ∈ W.map Prod.fst, H b ≠ none := fun b hb => by
    obtain ⟨p, hp, e⟩ := List.mem_map.mp hb
    obtain ⟨dx1, ta1, lb1, d1, h1, _⟩ := (I.op p (List.mem_cons_of_mem _ hp)).ex
    rw [← e, h1]
    simp
  have mapW : (bs.zip (chs t) ++ W).map Prod.fst = bs ++ W.map Prod.fst := by rw [List.map_append, zip_fst hbl]
  have ss : Same (frz m ak ((a, t) :: W) H) (frz m ak (bs.zip (chs t) ++ W) H') := by
    refine mask_same fun b o e hp => ?_
    rw [List.map_cons, List.mem_cons] at hp
    have n1 : b ≠ m := fun z => hp (.inl z)
    have n2 : b ≠ ak := fun z => hp (.inr (.inl z))
    have n3 : b ≠ a := fun z => hp (.inr (.inr (.inl z)))
    have n4 : ¬ b ∈ W.map Prod.fst := fun z => hp (.inr (.inr (.inr z)))
    refine ⟨?_, f b o e (by simp [n1, n2, n3])⟩
    rw [mapW, List.mem_append]
    rintro (z | z | z | z)
    · exact n1 z
    · exact n2 z
    · rw [fresh b z] at e; cases e
    · exact n4 z
  -- unmasked behind
  have un : ∀ b o, H' b = some o → b ≠ m → b ≠ ak → ¬ b ∈ bs → ¬ b ∈ W.map Prod.fst → frz m ak (bs.zip (chs t) ++ W) H' b = some o := fun b o e n1 n2 n3 n4 => by
    refine mask_mk ?_ e
    rw [mapW, List.mem_append]
    rintro (z | z | z | z)
    · exact n1 z
    · exact n2 z
    · exact n3 z
    · exact n4 z
  have anb : ¬ a ∈ bs := fun z => by rw [fresh a z] at ha; cases ha
  have aF : ∀ o, H' a = some o → frz m ak (bs.zip (chs t) ++ W) H' a = some o := fun o e => un a o e nma.symm nak anb haW
  have comp : Comp K (frz m ak (bs.zip (chs t) ++ W) H') (bs.zip (chs t) ++ W) a t := by
    cases t with
    | num n => exact .num (aF _ dn.2) (ss _ _ hlb) (hta.mono ss)
    | seen k wd => exact .seen (aF _ dn.2) (ss _ _ hlb)
    | free wd => exact .free (aF _ dn.2) (ss _ _ hlb) (hta.mono ss)
    | node kd ps =>
      obtain ⟨lb', h1, h2, h3, _, h5, _⟩ := dn
      have l1 : lb' ≠ m := fun z => by rw [z, hm] at h2; cases h2
      have l2 : lb' ≠ ak := fun z => by rw [z, hk] at h2; cases h2
      have l3 : ¬ lb' ∈ bs := fun z => by
        obtain ⟨j, hj, e⟩ := List.mem_iff_getElem.mp z
        obtain ⟨tb, n, _⟩ := hkid j lb' (chs (.node kd ps))[j] (by rw [List.getElem?_eq_getElem hj, e]) (List.getElem?_eq_getElem (by omega))
        obtain ⟨_, _, _, _, q, _⟩ := n.ex
        rw [h3] at q
        cases q
      have l4 : ¬ lb' ∈ W.map Prod.fst := fun z => inW _ z h2
      exact .node (aF _ h1) (un _ _ h3 l1 l2 l3 l4) h5 fun j s p e1 e2 => .opn (List.mem_append_left _ (mem_zip e1 e2))
  refine ⟨⟨M', I.N, I.e0, I.e1, ?_, ?_, ?_, ?_, ss _ _ I.ert, I.rl, ?_⟩, ss⟩
  · rw [ew, List.map_append]
    have e : (bs.zip (chs t)).map (fun p => V.ref p.1) = bs.map V.ref := by
      have : (bs.zip (chs t)).map (fun p => V.ref p.1) = ((bs.zip (chs t)).map Prod.fst).map V.ref := by rw [List.map_map] <;> rfl
      rw [this, zip_fst hbl]
    rw [e]
  · rintro rfl
    rw [hk] at hw
    cases hw
  · rw [mapW, List.nodup_append]
    refine ⟨hbn, hWn, fun x hx y hy e => ?_⟩
    subst e
    exact inW x hy (fresh x hx)
  · intro p hp
    rcases List.mem_append.mp hp with hp | hp
    · obtain ⟨j, q1, q2⟩ := zip_mem hp
      obtain ⟨tb, n, tr⟩ := hkid j p.1 p.2 q1 q2
      obtain ⟨dx1, lb1, f1, f2, g1, g2⟩ := n.ex
      have l1 : lb1 ≠ m := fun z => by rw [z, hm] at f2; cases f2
      have l2 : lb1 ≠ ak := fun z => by rw [z, hk] at f2; cases f2
      have l3 : ¬ lb1 ∈ bs := fun z => by
        obtain ⟨j', hj, e⟩ := List.mem_iff_getElem.mp z
        obtain ⟨tb', n', _⟩ := hkid j' lb1 (chs t)[j'] (by rw [List.getElem?_eq_getElem hj, e]) (List.getElem?_eq_getElem (by omega))
        obtain ⟨_, _, _, _, q, _⟩ := n'.ex
        rw [g2] at q
        cases q
      have l4 : ¬ lb1 ∈ W.map Prod.fst := fun z => inW _ z f2
      exact ⟨⟨dx1, tb, lb1, d + 1, g1, un _ _ g2 l1 l2 l3 l4, tr.mono ss⟩, chs_ok (I.op _ List.mem_cons_self).ok p.2 (List.mem_of_getElem? q2)⟩
    · have o := I.op p (List.mem_cons_of_mem _ hp)
      obtain ⟨dx1, ta1, lb1, d1, h1, h2, h3⟩ := o.ex
      have hpm : p.1 ∈ W.map Prod.fst := List.mem_map.mpr ⟨p, hp, rfl⟩
      have n1 : p.1 ≠ a := fun z => haW (by rw [← z]; exact hpm)
      have n2 : p.1 ≠ ak := ne_of h1 hk (by intro z; cases z)
      have n3 : p.1 ≠ m := ne_of h1 hm (by intro z; injection z with z1 z2 z3; cases z3)
      exact ⟨⟨dx1, ta1, lb1, d1, f _ _ h1 (by simp [n1, n2, n3]), ss _ _ h2, h3.mono ss⟩, o.ok⟩
  · intro j r t' h1 h2
    obtain ⟨c, o⟩ := I.cp j r t' h1 h2
    refine ⟨c.step ss fun x y hx => ?_, o⟩
    rcases List.mem_cons.mp hx with e | hx
    · injection e with e1 e2
      subst e1
      subst e2
      exact comp
    · exact .opn (List.mem_append_right _ hx)
end Mh
namespace Mh
open PySem PySem.Spec PyProof.Rows L2 TL
def wsum (W : List (Addr × LT)) : Nat := (W.map fun p => p.2.turns).sum
theorem wsum_cons (p : Addr × LT) (W : List (Addr × LT)) : wsum (p :: W) = p.2.turns + wsum W := by
  unfold wsum
  rw [List.map_cons, List.sum_cons]
theorem wsum_app (U W : List (Addr × LT)) : wsum (U ++ W) = wsum U + wsum W := by
  unfold wsum
  rw [List.map_append, List.sum_append]
theorem wsum_zip {bs : List Addr} {ps : List LT} (h : bs.length = ps.length) : wsum (bs.zip ps) = (ps.map LT.turns).sum := by
  unfold wsum
  have e : (bs.zip ps).map (fun p => p.2.turns) = ((bs.zip ps).map Prod.snd).map LT.turns := by rw [List.map_map] <;> rfl
  rw [e, zip_snd h]
theorem wsum_len : ∀ W : List (Addr × LT), W.length ≤ wsum W
  | [] => Nat.le_refl _
  | p :: W => by
    rw [wsum_cons, List.length_cons]
    have := wsum_len W
    have := turns_pos p.2
    omega
section
variable {P : Program} {w : World} {K : PySem.W.Frag} {mg : Str → Option Value} {base : Heap}
/-! ### make -/
theorem sc_make : FnScope ["maker", "delays", "many", "pick"] ["maker", "delays"] (defScope s_make) := ⟨rfl, rfl, rfl, by decide +kernel, rfl, by decide +kernel, by decide +kernel⟩
def spMake (K : PySem.W.Frag) : Sp := fun vs H Q _ => ∃ (m cl ak rt wt : Addr) (w0 w1 : Cs) (ys : List V) (nm : List Cs) (W : List (Addr × LT)) (roots : List Addr) (ts : List LT), vs = [.ref m, .non] ∧ WkInv K H m cl ak rt wt w0 w1 ys nm W roots ts ∧ wsum W ≤ 3000 ∧ ys.length ≤ 80000 ∧
  ∀ (H' : Hp) (wt' : Addr) (ys' : List V), WkInv K H' m cl ak rt wt' w0 w1 ys' nm [] roots ts → Same (frz m ak W H) (frz m ak [] H') → ys'.length ≤ ys.length + wsum W → Q (.int (wsum W : Nat)) H'
theorem WkInv.same {K : PySem.W.Frag} {H H' : Hp} {m cl ak rt wt : Addr} {w0 w1 : Cs} {ys : List V} {nm : List Cs} {W : List (Addr × LT)} {roots : List Addr} {ts : List LT} (I : WkInv K H m cl ak rt wt w0 w1 ys nm W roots ts) (s : Same H H') :
    WkInv K H' m cl ak rt wt w0 w1 ys nm W roots ts ∧ Same (frz m ak W H) (frz m ak W H') := by
  have ss : Same (frz m ak W H) (frz m ak W H') := mask_same fun b o e hp => ⟨hp, s b o e⟩
  refine ⟨⟨I.M.fr (Fr.of_same s) (s _ _ I.M.eak), I.N, I.e0, I.e1, s _ _ I.ewt, I.nwk, I.nd, fun p hp => ?_, ss _ _ I.ert, I.rl, fun j r t h1 h2 => ?_⟩, ss⟩
  · obtain ⟨dx, ta, lb, d, h1, h2, h3⟩ := (I.op p hp).ex
    exact ⟨⟨dx, ta, lb, d, s _ _ h1, ss _ _ h2, h3.mono ss⟩, (I.op p hp).ok⟩
  · obtain ⟨c, o⟩ := I.cp j r t h1 h2
    exact ⟨c.step ss fun x y hx => .opn hx, o⟩
theorem ok_make (T : Txt K mg) : CallF P w K mg base 9 "make" ["maker", "delays"] [.non] (spMake K) := by
  obtain ⟨fd, F⟩ := T.f_make
  have g1 := ok_turn (P := P) (w := w) (base := base) T
  obtain ⟨ds, hd, hb⟩ := F.binds1 (ps := ["maker", "delays"]) 1 0 (by simp) rfl fun Tt kV doc pm an cdv ct us its hu hi => match us, its, hu, hi with | [_], [_], _, _ => ⟨_, rfl, rfl⟩
  refine ⟨_, fd, ds, T.g_make, F.kp, hb, hd, okN F sc_make (fun vs H Q E h => ?_) fun cdv A outer s H vs Q E hr h => ?_⟩
  · obtain ⟨m, cl, ak, rt, wt, w0, w1, ys, nm, W, roots, ts, rfl, _⟩ := h
    rfl
  obtain ⟨m, cl, ak, rt, wt, w0, w1, ys, nm, W, roots, ts, rfl, I, hW, hys, k⟩ := h
  refine ⟨_, pss_cons (ps_set (i := 2) sc_make.nd rfl (Or.inl rfl) pe_int)
    (pss_cons (ps_while PassesOwn.never (pt_cmpR (op_ne_nil (hu1 hr)) (pe_fld (pv 0) rfl) (pe_lst pa_nil) (nomark _))
      (pss_cons (ps_set (i := 3) sc_make.nd rfl (Or.inl rfl) pe_int)
      (pss_cons (ps_if (PW.pt (pw_and (pt_cmpR op_notN (pv 1) pe_non (nomark _)) (pw_and1 (pt_cmpR op_lt (pv 2) (pe_callB call_len_seq (by rfl) T.z_len PySem.boot_len (pa_cons (pv 1) pa_nil)) (nomark _))))) (pss_one ps_never) pss_nil)
      (pss_cons (ps_expr (pf g1 hr (by rfl) (pa_cons (pv 0) (pa_cons (pv 3) pa_nil))))
      (pss_one (ps_set (i := 2) sc_make.nd rfl (Or.inl rfl) (pe_op op_add (pv 2) pe_int)))))))
    (pss_one (ps_ret (pv 2)))), ?_⟩
  refine ⟨fun mu σ H1 => ∃ (v3 : Option V) (n : Nat) (wt1 : Addr) (ys1 : List V) (W1 : List (Addr × LT)), σ = [some (.ref m), some .non, some (.int (n : Nat)), v3] ∧ WkInv K H1 m cl ak rt wt1 w0 w1 ys1 nm W1 roots ts ∧ Same (frz m ak W H) (frz m ak W1 H1) ∧ n + wsum W1 = wsum W ∧
      ys1.length ≤ ys.length + n ∧ mu = wsum W1, ⟨_, none, 0, wt, ys, W, rfl, I, fun b o e => e, by omega, by omega, rfl⟩, ?_⟩
  rintro mu σ H1 ⟨v3, n, wt1, ys1, W1, rfl, I1, ss1, hn, hy1, rfl⟩
  obtain ⟨dm, a1, a2, a3, hm⟩ := id I1.M.eob
  refine ⟨_, rfl, m, _, dm, _, _, rfl, hm, T.c_Maker, T.n_Maker_waiting, mk_waiting, Nat.zero_le _, fun q hq => ?_⟩
  have s0 : Same H1 (upd H1 q (.lst [])) := Same.put hq
  have q0 : upd H1 q (.lst []) q = some (.lst []) := upd_same
  generalize upd H1 q (.lst []) = H2 at s0 q0
  obtain ⟨I2, ss2⟩ := I1.same s0
  have ss02 : Same (frz m ak W H) (frz m ak W1 H2) := fun b o e => ss2 _ _ (ss1 b o e)
  refine ⟨wt1, q, _, rfl, rfl, SqL.of I2.ewt, q0, (fun e => by have := I1.ewt; rw [e, hq] at this; cases this), ?_⟩
  cases W1 with
  | nil =>
    refine ⟨_, rfl, ?_⟩
    refine ifF rfl ?_
    have e : n = wsum W := by
      have : wsum ([] : List (Addr × LT)) = 0 := rfl
      omega
    refine ⟨_, rfl, ?_⟩
    show Q (.int (n : Nat)) H2
    rw [e]
    exact k H2 wt1 ys1 I2 ss02 (by omega)
  | cons p W1 =>
    obtain ⟨a, t⟩ := p
    refine ⟨_, rfl, ?_⟩
    refine ifT rfl ?_
    refine ⟨fun σ' H' => ∃ (v3 : Option V) (wt2 : Addr) (ys2 : List V) (W2 : List (Addr × LT)), σ' = [some (.ref m), some .non, some (.int ((n + 1 : Nat) : Int)), v3] ∧ WkInv K H' m cl ak rt wt2 w0 w1 ys2 nm W2 roots ts ∧ Same (frz m ak W H) (frz m ak W2 H') ∧ n + 1 + wsum W2 = wsum W ∧ ys2.length ≤ ys.length + (n + 1), ?_, ?_⟩
    · rintro σ' H' ⟨v3, wt2, ys2, W2, rfl, h1, h2, h3, h4⟩
      exact ⟨wsum W2, by omega, v3, n + 1, wt2, ys2, W2, rfl, h1, h2, h3, h4, rfl⟩
    · obtain ⟨dx, ta, lb, d, ha, hlb, hta⟩ := (I2.op _ List.mem_cons_self).ex
      have hok := (I2.op _ List.mem_cons_self).ok
      have hWl : (W1.map fun p => V.ref p.1).length ≤ 5000 := by
        rw [List.length_map]
        have := wsum_len W1
        rw [wsum_cons] at hn
        omega
      have hPre : PreC K H2 m cl ak rt wt1 a dx lb ta w0 w1 ys1 d t nm 4 (frz m ak ((a, t) :: W1) H2) := ⟨I2.M, by omega, ha, I2.N, I2.e0, I2.e1, hok, hta, mask_sub, mask_in (.inr (.inl rfl)), mask_in (.inr (.inr (by simp)))⟩
      refine ⟨_, rfl, rfl, _, rfl, ?_⟩
      refine ifF rfl ?_
      refine ifF rfl ?_
      refine ⟨_, rfl, _, rfl, m, cl, ak, rt, wt1, w0, w1, ys1, 0, rfl, I2.M, .inr ⟨a, dx, lb, ta, d, t, nm, 4, _, _, rfl, I2.ewt, hWl, hPre, hlb, I2.nwk, fun H3 wt3 ys3 bs f3 M3 l3 hn3 hw3 dn => ?_⟩⟩
      obtain ⟨I3, ss3⟩ := I2.step ha hlb hta f3 M3 hn3 hw3 dn
      refine ⟨_, rfl, _, _, rfl, rfl, _, wt3, ys3, _, rfl, I3, fun b o e => ss3 _ _ (ss02 b o e), ?_, by omega⟩
      rw [wsum_app, wsum_zip dn.kids.1]
      rw [wsum_cons] at hn
      have := turns_chs t
      simp only at hn
      omega
end
end Mh
namespace Mh
open PySem PySem.Spec PyProof.Rows L2 TL
def kindS : LT → Str
  | .num _ => "num"
  | .seen _ _ => "seen"
  | .free _ => "free"
  | .node kd _ => kd.nm
theorem Comp.fields {K : PySem.W.Frag} {F : Hp} {a : Addr} {t : LT} (c : Comp K F [] a t) : ∃ (dx ta lb : Addr) (d : Int) (g cm : V) (ss : List Addr), F a = some (.ins (cS K) dx (spF (.ref ta) (.int d) (.str (kindS t)) g cm (.ref lb))) ∧ F lb = some (.lst (ss.map V.ref)) ∧ ss.length = (chs t).length ∧
    ∀ (j : Nat) s p, ss[j]? = some s → (chs t)[j]? = some p → Comp K F [] s p := by
  cases c with
  | opn h => cases h
  | num e1 e2 _ => exact ⟨_, _, _, _, _, _, [], e1, e2, rfl, fun j s p h => by simp at h⟩
  | seen e1 e2 => exact ⟨_, _, _, _, _, _, [], e1, e2, rfl, fun j s p h => by simp at h⟩
  | free e1 e2 _ => exact ⟨_, _, _, _, _, _, [], e1, e2, rfl, fun j s p h => by simp at h⟩
  | node e1 e2 e3 e4 => exact ⟨_, _, _, _, _, _, _, e1, e2, e3, e4⟩
/-- at most n - 1 rows deep -/
def LOkP (nm : List Cs) : Nat → LT → Prop
  | 0, _ => False
  | n + 1, t => LOk nm n t
theorem LOkP.chs {nm : List Cs} {n : Nat} {t : LT} (h : LOk nm n t) : ∀ p ∈ chs t, LOkP nm n p := by
  cases t with
  | node kd ps =>
    obtain ⟨k, rfl, _, hp⟩ := h.node
    exact fun p hp' => hp p hp'
  | num _ => exact fun p hp => by cases hp
  | seen _ _ => exact fun p hp => by cases hp
  | free _ => exact fun p hp => by cases hp
/-- done spots at l -/
structure Spots (K : PySem.W.Frag) (H : Hp) (nm : List Cs) (n : Nat) (l : Addr) (ts : List LT) : Prop where
  ex : ∃ ss : List Addr, H l = some (.lst (ss.map V.ref)) ∧ ss.length = ts.length ∧ ∀ (j : Nat) s t, ss[j]? = some s → ts[j]? = some t → Comp K H [] s t ∧ LOkP nm n t
theorem Spots.below {K : PySem.W.Frag} {H : Hp} {nm : List Cs} {n : Nat} {a : Addr} {t : LT} (c : Comp K H [] a t) (h : LOk nm n t) : ∃ (dx ta lb : Addr) (d : Int) (g cm : V), H a = some (.ins (cS K) dx (spF (.ref ta) (.int d) (.str (kindS t)) g cm (.ref lb))) ∧ Spots K H nm n lb (chs t) := by
  obtain ⟨dx, ta, lb, d, g, cm, ss, e1, e2, e3, e4⟩ := c.fields
  exact ⟨dx, ta, lb, d, g, cm, e1, ⟨ss, e2, e3, fun j s p h1 h2 => ⟨e4 j s p h1 h2, LOkP.chs h p (List.mem_of_getElem? h2)⟩⟩⟩
theorem Spots.zero {K : PySem.W.Frag} {H : Hp} {nm : List Cs} {l : Addr} {ts : List LT} (h : Spots K H nm 0 l ts) : ts = [] ∧ H l = some (.lst []) := by
  obtain ⟨ss, h1, h2, h3⟩ := h.ex
  cases ts with
  | nil =>
    cases ss with
    | nil => exact ⟨rfl, h1⟩
    | cons _ _ => cases h2
  | cons t r =>
    cases ss with
    | nil => cases h2
    | cons s q => exact (h3 0 s t rfl rfl).2.elim
theorem kind_no (t : LT) : decide (V.str (kindS t) = V.str "wrong") = false ∧ decide (V.str (kindS t) = V.str "fn") = false := by
  have go : ∀ z : Str, decide (V.str z = V.str "wrong") = false ∧ decide (V.str z = V.str "fn") = false → z = kindS t → decide (V.str (kindS t) = V.str "wrong") = false ∧ decide (V.str (kindS t) = V.str "fn") = false := fun z h e => by rw [← e]; exact h
  cases t with
  | num _ => exact go "num" (by decide +kernel) rfl
  | seen _ _ => exact go "seen" (by decide +kernel) rfl
  | free _ => exact go "free" (by decide +kernel) rfl
  | node kd _ =>
    cases kd with
    | call => exact go "call" (by decide +kernel) rfl
    | pick => exact go "pick" (by decide +kernel) rfl
    | now => exact go "now" (by decide +kernel) rfl
section
variable {P : Program} {w : World} {K : PySem.W.Frag} {mg : Str → Option Value} {base : Heap}
/-! ### first_wrong -/
theorem sc_fw : FnScope ["spots", "spot", "found"] ["spots"] (defScope s_first_wrong) := ⟨rfl, rfl, rfl, by decide +kernel, rfl, by decide +kernel, by decide +kernel⟩
def spFw (K : PySem.W.Frag) (n : Nat) : Sp := fun vs H Q _ => ∃ (l : Addr) (nm : List Cs) (ts : List LT), vs = [.ref l] ∧ Spots K H nm n l ts ∧ Q .non H
theorem ok_fw (T : Txt K mg) : ∀ n : Nat, CallF P w K mg base (n + 1) "first_wrong" ["spots"] [] (spFw K n) := by
  intro n
  induction n with
  | zero =>
    obtain ⟨fd, F⟩ := T.f_first_wrong
    refine ⟨_, fd, [], T.g_first_wrong, F.kp, F.bindsN (ps := ["spots"]) (fun _ _ _ _ _ _ us hl => match us, hl with | [_], _ => rfl), .nil, okN F sc_fw (fun vs H Q E h => ?_) fun cdv A outer s H vs Q E hr h => ?_⟩
    · obtain ⟨l, nm, ts, rfl, _⟩ := h
      rfl
    obtain ⟨l, nm, ts, rfl, hs, q⟩ := h
    refine ⟨_, pss_cons (ps_for PassesOwn.never rfl (pi_list (pv 0)) (pg_name (i := 1) sc_fw.nd rfl (Or.inl rfl)) (pss_cons ps_never (pss_cons ps_never (pss_one ps_never)))) (pss_one (ps_ret pe_non)), ?_⟩
    obtain ⟨rfl, hl⟩ := hs.zero
    refine ⟨_, rfl, l, rfl, ⟨_, SqL.of hl⟩, for_list (K := K) (a := l) (xs := []) (fun i σ H' => H' = H) rfl ?_ ?_ ?_⟩
    · rintro i σ H1 _ rfl
      exact SqL.of hl
    · rintro i x σ H1 hi
      simp at hi
    · rintro σ H1 rfl
      exact q
  | succ n ih =>
    obtain ⟨fd, F⟩ := T.f_first_wrong
    refine ⟨_, fd, [], T.g_first_wrong, F.kp, F.bindsN (ps := ["spots"]) (fun _ _ _ _ _ _ us hl => match us, hl with | [_], _ => rfl), .nil, okN F sc_fw (fun vs H Q E h => ?_) fun cdv A outer s H vs Q E hr h => ?_⟩
    · obtain ⟨l, nm, ts, rfl, _⟩ := h
      rfl
    obtain ⟨l, nm, ts, rfl, hs, q⟩ := h
    refine ⟨_, pss_cons (ps_for PassesOwn.never rfl (pi_list (pv 0)) (pg_name (i := 1) sc_fw.nd rfl (Or.inl rfl)) (pss_cons (ps_if (pt_cmpR op_eq (pe_fld (pv 1) rfl) pe_str (nomark _)) (pss_one (ps_ret (pv 1))) pss_nil)
      (pss_cons (ps_set (i := 2) sc_fw.nd rfl (Or.inl rfl) (pf ih hr (by rfl) (pa_cons (pe_fld (pv 1) rfl) pa_nil)))
      (pss_one (ps_if (pt_cmpR op_notN (pv 2) pe_non (nomark _)) (pss_one (ps_ret (pv 2))) pss_nil))))) (pss_one (ps_ret pe_non)), ?_⟩
    obtain ⟨ss, hl, hlen, hall⟩ := hs.ex
    refine ⟨_, rfl, l, rfl, ⟨_, SqL.of hl⟩, for_list (K := K) (a := l) (xs := ss.map V.ref) (fun i σ H' => H' = H ∧ ∃ v1 v2 : Option V, σ = [some (.ref l), v1, v2]) ⟨rfl, _, _, rfl⟩ ?_ ?_ ?_⟩
    · rintro i σ H1 _ ⟨rfl, _⟩
      exact SqL.of hl
    · rintro i x σ H1 hi ⟨rfl, v1, v2, rfl⟩
      rw [List.getElem?_map] at hi
      obtain ⟨sa, hsa, ex⟩ := Option.map_eq_some_iff.mp hi
      subst ex
      have hil := (List.getElem?_eq_some_iff.mp hsa).1
      obtain ⟨c, o⟩ := hall i sa ts[i] hsa (List.getElem?_eq_getElem (by omega))
      obtain ⟨dx, ta, lb, d, g, cm, e1, e2⟩ := Spots.below c o
      refine ⟨_, rfl, sa, _, dx, _, _, rfl, e1, T.c_Spot, T.n_Spot_kind, sp_kind, scal_str, _, rfl, ?_⟩
      refine ifF (kind_no _).1 ?_
      refine ⟨_, rfl, sa, _, dx, _, _, rfl, e1, T.c_Spot, T.n_Spot_below, sp_below, lb, nm, _, rfl, e2, ?_⟩
      refine ⟨_, rfl, rfl, _, rfl, ?_⟩
      refine ifF rfl ?_
      exact ⟨rfl, _, _, rfl⟩
    · rintro σ H1 ⟨rfl, _⟩
      exact q
/-! ### number_places -/
theorem sc_np : FnScope ["spots", "numbers", "tops", "spot", "place", "name"] ["spots", "numbers", "tops"] (defScope s_number_places) := ⟨rfl, rfl, rfl, by decide +kernel, rfl, by decide +kernel, by decide +kernel⟩
def spNp (K : PySem.W.Frag) (n : Nat) : Sp := fun vs H Q _ => ∃ (l : Addr) (x y : V) (nm : List Cs) (ts : List LT), vs = [.ref l, x, y] ∧ Spots K H nm n l ts ∧ Q .non H
theorem ok_np (T : Txt K mg) : ∀ n : Nat, CallF P w K mg base (n + 1) "number_places" ["spots", "numbers", "tops"] [] (spNp K n) := by
  intro n
  induction n with
  | zero =>
    obtain ⟨fd, F⟩ := T.f_number_places
    refine ⟨_, fd, [], T.g_number_places, F.kp, F.bindsN (ps := ["spots", "numbers", "tops"]) (fun _ _ _ _ _ _ us hl => match us, hl with | [_, _, _], _ => rfl), .nil, okN F sc_np (fun vs H Q E h => ?_) fun cdv A outer s H vs Q E hr h => ?_⟩
    · obtain ⟨l, x, y, nm, ts, rfl, _⟩ := h
      rfl
    obtain ⟨l, x, y, nm, ts, rfl, hs, q⟩ := h
    refine ⟨_, pss_one (ps_for PassesOwn.never rfl (pi_list (pv 0)) (pg_name (i := 3) sc_np.nd rfl (Or.inl rfl)) (pss_cons ps_never (pss_one ps_never))), ?_⟩
    obtain ⟨rfl, hl⟩ := hs.zero
    refine ⟨_, rfl, l, rfl, ⟨_, SqL.of hl⟩, for_list (K := K) (a := l) (xs := []) (fun i σ H' => H' = H) rfl ?_ ?_ ?_⟩
    · rintro i σ H1 _ rfl
      exact SqL.of hl
    · rintro i x σ H1 hi
      simp at hi
    · rintro σ H1 rfl
      exact q
  | succ n ih =>
    obtain ⟨fd, F⟩ := T.f_number_places
    refine ⟨_, fd, [], T.g_number_places, F.kp, F.bindsN (ps := ["spots", "numbers", "tops"]) (fun _ _ _ _ _ _ us hl => match us, hl with | [_, _, _], _ => rfl), .nil, okN F sc_np (fun vs H Q E h => ?_) fun cdv A outer s H vs Q E hr h => ?_⟩
    · obtain ⟨l, x, y, nm, ts, rfl, _⟩ := h
      rfl
    obtain ⟨l, x, y, nm, ts, rfl, hs, q⟩ := h
    refine ⟨_, pss_one (ps_for PassesOwn.never rfl (pi_list (pv 0)) (pg_name (i := 3) sc_np.nd rfl (Or.inl rfl)) (pss_cons (ps_if (pt_cmpR op_eq (pe_fld (pv 3) rfl) pe_str (nomark _)) (pss_one ps_never) pss_nil)
      (pss_one (ps_expr (pf ih hr (by rfl) (pa_cons (pe_fld (pv 3) rfl) (pa_cons (pv 1) (pa_cons (pv 2) pa_nil)))))))), ?_⟩
    obtain ⟨ss, hl, hlen, hall⟩ := hs.ex
    refine ⟨_, rfl, l, rfl, ⟨_, SqL.of hl⟩, for_list (K := K) (a := l) (xs := ss.map V.ref) (fun i σ H' => H' = H ∧ ∃ v1 v2 v3 : Option V, σ = [some (.ref l), some x, some y, v1, v2, v3]) ⟨rfl, _, _, _, rfl⟩ ?_ ?_ ?_⟩
    · rintro i σ H1 _ ⟨rfl, _⟩
      exact SqL.of hl
    · rintro i x σ H1 hi ⟨rfl, v1, v2, v3, rfl⟩
      rw [List.getElem?_map] at hi
      obtain ⟨sa, hsa, ex⟩ := Option.map_eq_some_iff.mp hi
      subst ex
      have hil := (List.getElem?_eq_some_iff.mp hsa).1
      obtain ⟨c, o⟩ := hall i sa ts[i] hsa (List.getElem?_eq_getElem (by omega))
      obtain ⟨dx, ta, lb, d, g, cm, e1, e2⟩ := Spots.below c o
      refine ⟨_, rfl, sa, _, dx, _, _, rfl, e1, T.c_Spot, T.n_Spot_kind, sp_kind, scal_str, _, rfl, ?_⟩
      refine ifF (kind_no _).2 ?_
      refine ⟨_, rfl, sa, _, dx, _, _, rfl, e1, T.c_Spot, T.n_Spot_below, sp_below, _, rfl, _, rfl, lb, _, _, nm, _, rfl, e2, ?_⟩
      exact ⟨rfl, _, _, _, rfl⟩
    · rintro σ H1 ⟨rfl, _⟩
      exact q
end
end Mh
namespace Mh
open PySem PySem.Spec PyProof.Rows L2 TL
/-! ### tuples of tuples -/
inductive Dat where
  | int (n : Int)
  | str (s : Str)
  | tup (ds : List Dat)
inductive DatAt (H : Hp) : V → Dat → Prop where
  | int {n : Int} : DatAt H (.int n) (.int n)
  | str {s : Str} : DatAt H (.str s) (.str s)
  | tup {p : Addr} {vs : List V} {ds : List Dat} : H p = some (.tup vs) → vs.length = ds.length → (∀ (j : Nat) v d, vs[j]? = some v → ds[j]? = some d → DatAt H v d) → DatAt H (.ref p) (.tup ds)
/-- all but the lists is as it was -/
def Sn (H H' : Hp) : Prop := ∀ b o, H b = some o → (∀ l, o ≠ .lst l) → H' b = some o
theorem Sn.of {H H' : Hp} (s : Same H H') : Sn H H' := fun b o e _ => s b o e
theorem Sn.trans {H H1 H2 : Hp} (a : Sn H H1) (b : Sn H1 H2) : Sn H H2 := fun c o e h => b c o (a c o e h) h
theorem Sn.put {H : Hp} {D : Addr} {l : List V} {o : HO} (h : H D = some (.lst l)) : Sn H (upd H D o) := fun b u e hb => by
  have ne : b ≠ D := by
    rintro rfl
    rw [h] at e
    exact hb l (Option.some.inj e).symm
  rw [upd_ne ne]
  exact e
theorem DatAt.mono {H H' : Hp} (s : Sn H H') {v : V} {d : Dat} (h : DatAt H v d) : DatAt H' v d := by
  induction h with
  | int => exact .int
  | str => exact .str
  | tup e1 e2 _ ih => exact .tup (s _ _ e1 (by intro l z; cases z)) e2 fun j v d h1 h2 => ih j v d h1 h2
inductive All2 {A B : Type} (R : A → B → Prop) : List A → List B → Prop where
  | nil : All2 R [] []
  | cons {x : A} {y : B} {xs : List A} {ys : List B} : R x y → All2 R xs ys → All2 R (x :: xs) (y :: ys)
theorem All2.len {A B : Type} {R : A → B → Prop} {xs : List A} {ys : List B} (h : All2 R xs ys) : xs.length = ys.length := by
  induction h with
  | nil => rfl
  | cons _ _ ih => rw [List.length_cons, List.length_cons, ih]
theorem All2.get {A B : Type} {R : A → B → Prop} {xs : List A} {ys : List B} (h : All2 R xs ys) : ∀ (j : Nat) x y, xs[j]? = some x → ys[j]? = some y → R x y := by
  induction h with
  | nil => intro j x y h; simp at h
  | cons r _ ih =>
    intro j x y h1 h2
    cases j with
    | zero =>
      rw [← Option.some.inj h1, ← Option.some.inj h2]
      exact r
    | succ j => exact ih j x y (by simpa using h1) (by simpa using h2)
theorem All2.of {A B : Type} {R : A → B → Prop} : ∀ {xs : List A} {ys : List B}, xs.length = ys.length → (∀ (j : Nat) x y, xs[j]? = some x → ys[j]? = some y → R x y) → All2 R xs ys
  | [], [], _, _ => .nil
  | [], _ :: _, h, _ => by cases h
  | _ :: _, [], h, _ => by cases h
  | x :: xs, y :: ys, h, r => .cons (r 0 x y rfl rfl) (All2.of (by simpa using h) fun j a b h1 h2 => r (j + 1) a b (by simpa using h1) (by simpa using h2))
theorem All2.imp {A B : Type} {R R' : A → B → Prop} (f : ∀ x y, R x y → R' x y) {xs : List A} {ys : List B} (h : All2 R xs ys) : All2 R' xs ys := by
  induction h with
  | nil => exact .nil
  | cons r _ ih => exact .cons (f _ _ r) ih
/-- a tuple of such items -/
theorem DatAt.mk {H : Hp} {p : Addr} {vs : List V} {ds : List Dat} (h : H p = some (.tup vs)) (h2 : All2 (DatAt H) vs ds) : DatAt H (.ref p) (.tup ds) := .tup h h2.len h2.get
def coreN : Kd → List Dat → Dat
  | .call, c :: cs => .tup [.str "call", c, .tup cs]
  | .call, [] => .tup []
  | .pick, cs => .tup (.str "pick" :: cs)
  | .now, cs => .tup (.str "now" :: cs)
mutual
def LT.core : LT → Dat
  | .num n => .tup [.str "num", .int n]
  | .seen k _ => .tup [.str "seen", .int (k : Nat)]
  | .free w => .tup [.str "free", .str (S w)]
  | .node kd ps => coreN kd (LT.cors ps)
def LT.cors : List LT → List Dat
  | [] => []
  | p :: ps => p.core :: LT.cors ps
end
theorem cors_map : ∀ ps : List LT, LT.cors ps = ps.map LT.core
  | [] => rfl
  | p :: ps => by
    show p.core :: LT.cors ps = _
    rw [cors_map ps] <;> rfl
/-- a comprehension over a list, whose element makes new objects; Y tells of the j-th item -/
theorem lc_grow {K : PySem.W.Frag} {a : Addr} {xs : List V} {i : Nat} {te : TE} {σ : L2.St} {H1 : Hp} {D : Addr} {Qd : Hp → Prop} (Y : Nat → Hp → V → Prop) (mono : ∀ j H H' v, Sn H H' → Y j H v → Y j H' v) (hx : SqL K H1 a xs) (hl : xs.length ≤ 1000) (hD : H1 D = none)
    (hw : ∀ x : V, wipe ((wipe σ [i]).set i (some x)) [i] = wipe σ [i])
    (he : ∀ (j : Nat) x H2 (Q : VK), xs[j]? = some x → Same H1 H2 → (∀ y H3, Same H2 H3 → Y j H3 y → Q y H3) → te ((wipe σ [i]).set i (some x)) H2 Q)
    (hd : ∀ (H' : Hp) (ys : List V), Same H1 H' → H' D = some (.lst ys) → ys.length = xs.length → (∀ (j : Nat) y, ys[j]? = some y → Y j H' y) → Qd H') :
    ∃ W : Nat → Nat → Hp → Prop, (∃ m, W 0 m (upd H1 D (.lst []))) ∧ ∀ i' m H, W i' m H →
      ((Itl K a).stop i' H ∧ Qd H) ∨ ((Itl K a).go i' H ∧ ∃ Nx : Hp → Prop, (∀ H', Nx H' → ∃ m', m' < m ∧ W (i' + 1) m' H') ∧ ∀ x H', (Itl K a).yld i' H x H' → gName i x (wipe σ [i]) H' fun σ2 H2 => wipe σ2 [i] = wipe σ [i] ∧ tYes σ2 H2 fun b H3 =>
        if b = true then te σ2 H3 fun y H4 => ∃ acc, H4 D = some (.lst acc) ∧ acc.length < sizeLine ∧ Nx (upd H4 D (.lst (acc ++ [y]))) else Nx H3) := by
  refine lc_list (K := K) (a := a) (xs := xs) (fun j H => ∃ ys : List V, Same H1 H ∧ H D = some (.lst ys) ∧ ys.length = j ∧ ∀ (j : Nat) y, ys[j]? = some y → Y j H y) ⟨[], Same.put hD, upd_same, rfl, fun j y h => by simp at h⟩ ?_ ?_ ?_
  · rintro j H _ ⟨ys, s, _⟩
    exact s.seq hx
  · rintro j x H hj ⟨ys, s, hDs, hl2, hy⟩
    refine ⟨hw x, yes (he j x H _ hj s fun y H3 s3 q => ?_)⟩
    have hjl : j < xs.length := (List.getElem?_eq_some_iff.mp hj).1
    have hD3 := s3 _ _ hDs
    have sn : Sn H3 (upd H3 D (.lst (ys ++ [y]))) := Sn.put hD3
    refine ⟨ys, hD3, sl1000 (by omega), ys ++ [y], fun b o e => ?_, upd_same, by rw [List.length_append, hl2] <;> rfl, fun j' y' h => ?_⟩
    · rw [upd_ne (ne_of_none e hD)]
      exact s3 _ _ (s _ _ e)
    by_cases hlt : j' < ys.length
    · rw [List.getElem?_append_left hlt] at h
      exact mono _ _ _ _ ((Sn.of s3).trans sn) (hy j' y' h)
    · rw [List.getElem?_append_right (by omega)] at h
      have e : j' - ys.length = 0 := by
        by_cases e : j' - ys.length = 0
        · exact e
        · rw [List.getElem?_eq_none (by simp; omega)] at h
          cases h
      rw [e] at h
      have ey : y = y' := Option.some.inj h
      have ej : j' = j := by omega
      rw [← ey, ej]
      exact mono _ _ _ _ sn q
  · rintro H ⟨ys, s, hDs, hl2, hy⟩
    exact hd H ys s hDs hl2 hy
section
variable {P : Program} {w : World} {K : PySem.W.Frag} {mg : Str → Option Value} {base : Heap}
/-! ### core_of -/
theorem sc_core : FnScope ["spot", "numbers", "cores", "below", "place", "name"] ["spot", "numbers"] (defScope s_core_of) := ⟨rfl, rfl, rfl, by decide +kernel, rfl, by decide +kernel, by decide +kernel⟩
def spCore (K : PySem.W.Frag) (n : Nat) : Sp := fun vs H Q _ => ∃ (a nb : Addr) (nm : List Cs) (t : LT), vs = [.ref a, .ref nb] ∧ H nb = some (.dK []) ∧ Comp K H [] a t ∧ LOkP nm n t ∧ ∀ (H' : Hp) (v : V), Same H H' → DatAt H' v t.core → Q v H'
theorem ok_core (T : Txt K mg) : ∀ n : Nat, CallF P w K mg base (n + 1) "core_of" ["spot", "numbers"] [] (spCore K n) := by
  intro n
  induction n with
  | zero =>
    obtain ⟨fd, F⟩ := T.f_core_of
    refine ⟨_, fd, [], T.g_core_of, F.kp, F.bindsN (ps := ["spot", "numbers"]) (fun _ _ _ _ _ _ us hl => match us, hl with | [_, _], _ => rfl), .nil, okN F sc_core (fun vs H Q E h => ?_) fun cdv A outer s H vs Q E hr h => ?_⟩
    · obtain ⟨a, nb, nm, t, rfl, _⟩ := h
      rfl
    obtain ⟨a, nb, nm, t, rfl, _, _, hf, _⟩ := h
    exact hf.elim
  | succ n ih =>
    obtain ⟨fd, F⟩ := T.f_core_of
    refine ⟨_, fd, [], T.g_core_of, F.kp, F.bindsN (ps := ["spot", "numbers"]) (fun _ _ _ _ _ _ us hl => match us, hl with | [_, _], _ => rfl), .nil, okN F sc_core (fun vs H Q E h => ?_) fun cdv A outer s H vs Q E hr h => ?_⟩
    · obtain ⟨a, nb, nm, t, rfl, _⟩ := h
      rfl
    obtain ⟨a, nb, nm, t, rfl, hnb, hc, ho, k⟩ := h
    refine ⟨_, pss_cons (ps_if (pt_cmpR op_eq (pe_fld (pv 0) rfl) pe_str (nomark _)) (pss_one (ps_ret (pe_tup (pa_cons pe_str (pa_cons (pe_fld (pe_fld (pv 0) rfl) rfl) pa_nil))))) pss_nil)
      (pss_cons (ps_if (pt_cmpR op_eq (pe_fld (pv 0) rfl) pe_str (nomark _)) (pss_one (ps_ret (pe_tup (pa_cons pe_str (pa_cons (pe_fld (pe_fld (pv 0) rfl) rfl) pa_nil))))) pss_nil)
      (pss_cons (ps_if (pt_cmpR op_eq (pe_fld (pv 0) rfl) pe_str (nomark _)) (pss_one (ps_ret (pe_tup (pa_cons pe_str (pa_cons (pe_dget2 (Nat.lt_of_succ_lt (hu2 hr)) (pv 1) (pe_fld (pv 0) rfl) (pe_fld (pv 0) rfl) ⟨rfl, rfl, rfl, rfl⟩) pa_nil))))) pss_nil)
      (pss_cons (ps_setLc (i := 2) (own := [("below", 3)]) (g := gName 3) (tt := tYes) (te := tCall (spCore K n) [] E0 (tCons (tVar 3) (tCons (tVar 1) tNil))) rfl sc_core.nd rfl rfl (sw_true rfl rfl rfl (by decide +kernel)) (pi_list (pe_fld (pv 0) rfl))
          (blkOk_by (own := [("below", 3)]) (N := ["spot", "numbers", "cores", "below", "place", "name"]) (sc := defScope s_core_of) (by decide +kernel)) (fun _ _ _ _ _ => pg_name (i := 3) sc_core.nd rfl (Or.inl rfl)) (fun _ _ _ _ _ => pts_nil)
          (fun _ _ _ _ _ => pf ih hr (by rfl) (pa_cons (pv 3) (pa_cons (pv 1) pa_nil))))
      (pss_cons (ps_if (pt_cmpR op_eq (pe_fld (pv 0) rfl) pe_str (nomark _)) (pss_one ps_never) pss_nil)
      (pss_cons (ps_if (pt_cmpR op_eq (pe_fld (pv 0) rfl) pe_str (nomark _)) (pss_one (ps_ret (pe_tup (pa_cons pe_str (pa_cons (pe_ix ix_list (pv 2) pe_int (fun _ _ => rfl)) (pa_cons (pe_callTy call_tuple_of (by rfl) T.z_tuple boot_tuple (pa_cons (pe_slice sl_list (pv 2) (po_some pe_int) po_none) pa_nil)) pa_nil)))))) pss_nil)
      (pss_one (ps_ret (pe_op op_catT (pe_tup (pa_cons (pe_fld (pv 0) rfl) pa_nil)) (pe_callTy call_tuple_of (by rfl) T.z_tuple boot_tuple (pa_cons (pv 2) pa_nil)))))))))), ?_⟩
    have dput : ∀ (p : Addr) (vs : List V) (ds : List Dat), H p = none → All2 (DatAt (upd H p (.tup vs))) vs ds → DatAt (upd H p (.tup vs)) (.ref p) (.tup ds) := fun p vs ds _ h2 => .mk upd_same h2
    cases hc with
    | opn h => cases h
    | @num _ dx ta lb d z g c e1 e2 e3 =>
      obtain ⟨df, jf, ef⟩ : ∃ (df : Addr) (jf : Int), H ta = some (.ins (cF K) df (fgF jf z)) := by
        cases e3 with
        | fig e => exact ⟨_, _, e⟩
      refine ⟨_, rfl, a, _, dx, _, _, rfl, e1, T.c_Spot, T.n_Spot_kind, sp_kind, scal_str, _, rfl, ?_⟩
      refine ifT (by decide +kernel) ?_
      exact ⟨_, rfl, a, _, dx, _, _, rfl, e1, T.c_Spot, T.n_Spot_tree, sp_tree, ta, _, df, _, _, rfl, ef, T.c_Figure, T.n_Figure_number, fg_number, (by show 2 ≤ sizeLine; decide), fun p hp => k _ _ (Same.put hp) (.mk upd_same (.cons .str (.cons .int .nil)))⟩
    | @free _ dx ta lb d wd g c e1 e2 e3 =>
      obtain ⟨df, jf, ef⟩ : ∃ (df : Addr) (jf : Int), H ta = some (.ins (cW K) df (wdF jf (S wd))) := by
        cases e3 with
        | word e => exact ⟨_, _, e⟩
      refine ⟨_, rfl, a, _, dx, _, _, rfl, e1, T.c_Spot, T.n_Spot_kind, sp_kind, scal_str, _, rfl, ?_⟩
      refine ifF (by decide +kernel) ?_
      refine ⟨_, rfl, a, _, dx, _, _, rfl, e1, T.c_Spot, T.n_Spot_kind, sp_kind, scal_str, _, rfl, ?_⟩
      refine ifT (by decide +kernel) ?_
      exact ⟨_, rfl, a, _, dx, _, _, rfl, e1, T.c_Spot, T.n_Spot_tree, sp_tree, ta, _, df, _, _, rfl, ef, T.c_Word, T.n_Word_name, wd_name, (by show 2 ≤ sizeLine; decide), fun p hp => k _ _ (Same.put hp) (.mk upd_same (.cons .str (.cons .str .nil)))⟩
    | @seen _ dx ta lb d kk wd c e1 e2 =>
      refine ⟨_, rfl, a, _, dx, _, _, rfl, e1, T.c_Spot, T.n_Spot_kind, sp_kind, scal_str, _, rfl, ?_⟩
      refine ifF (by decide +kernel) ?_
      refine ⟨_, rfl, a, _, dx, _, _, rfl, e1, T.c_Spot, T.n_Spot_kind, sp_kind, scal_str, _, rfl, ?_⟩
      refine ifF (by decide +kernel) ?_
      refine ⟨_, rfl, a, _, dx, _, _, rfl, e1, T.c_Spot, T.n_Spot_kind, sp_kind, scal_str, _, rfl, ?_⟩
      refine ifT (by decide +kernel) ?_
      exact ⟨_, rfl, nb, rfl, .inl ⟨_, .of hnb⟩, _, rfl, a, _, dx, _, _, rfl, e1, T.c_Spot, T.n_Spot_given, sp_given, _, rfl, a, _, dx, _, _, rfl, e1, T.c_Spot, T.n_Spot_given, sp_given, none, .inl ⟨[], .inl (kk : Nat), .of hnb, rfl, rfl⟩, (by show 2 ≤ sizeLine; decide), fun p hp => k _ _ (Same.put hp) (.mk upd_same (.cons .str (.cons .int .nil)))⟩
    | @node _ dx ta lb d kd ps g c ss e1 e2 e3 e4 =>
      obtain ⟨n', en, hlen, hps⟩ := LOk.node ho
      have hpos := hlen.pos
      have kno : ∀ z : Str, z = "num" ∨ z = "free" ∨ z = "seen" ∨ z = "fn" → decide (V.str kd.nm = V.str z) = false := by
        rintro z (rfl | rfl | rfl | rfl) <;> cases kd <;> decide +kernel
      refine ⟨_, rfl, a, _, dx, _, _, rfl, e1, T.c_Spot, T.n_Spot_kind, sp_kind, scal_str, _, rfl, ?_⟩
      refine ifF (kno _ (by simp)) ?_
      refine ⟨_, rfl, a, _, dx, _, _, rfl, e1, T.c_Spot, T.n_Spot_kind, sp_kind, scal_str, _, rfl, ?_⟩
      refine ifF (kno _ (by simp)) ?_
      refine ⟨_, rfl, a, _, dx, _, _, rfl, e1, T.c_Spot, T.n_Spot_kind, sp_kind, scal_str, _, rfl, ?_⟩
      refine ifF (kno _ (by simp)) ?_
      refine ⟨_, rfl, a, _, dx, _, _, rfl, e1, T.c_Spot, T.n_Spot_below, sp_below, lb, rfl, ⟨_, SqL.of e2⟩, fun D hD => ?_⟩
      refine lc_grow (fun j H v => ∀ p, ps[j]? = some p → DatAt H v p.core) (fun j H H' v s h p hp => (h p hp).mono s) (SqL.of e2) (by rw [List.length_map]; omega) hD (fun _ => rfl) ?_ ?_
      · intro j x H2 Q' hj s2 k2
        rw [List.getElem?_map] at hj
        obtain ⟨sa, hsa, ex⟩ := Option.map_eq_some_iff.mp hj
        subst ex
        have hjl := (List.getElem?_eq_some_iff.mp hsa).1
        have hpj : ps[j]? = some ps[j] := List.getElem?_eq_getElem (by omega)
        refine ⟨_, rfl, _, rfl, sa, nb, nm, ps[j], rfl, s2 _ _ hnb, (e4 j sa _ hsa hpj).step s2 (fun _ _ h => by cases h), ?_, fun H' v s3 dv => k2 v H' s3 fun p hp => ?_⟩
        · subst en
          exact hps _ (List.mem_of_getElem? hpj)
        · rw [hpj] at hp
          rw [← Option.some.inj hp]
          exact dv
      intro H1 ys s1 hDs hyl hy
      rw [List.length_map] at hyl
      have hall : All2 (DatAt H1) ys (LT.cors ps) := by
        refine All2.of (by rw [cors_map, List.length_map]; omega) fun j v dd h1 h2 => ?_
        rw [cors_map, List.getElem?_map] at h2
        obtain ⟨p, hp, ed⟩ := Option.map_eq_some_iff.mp h2
        rw [← ed]
        exact hy j v h1 p hp
      have ea1 := s1 _ _ e1
      refine ⟨_, rfl, a, _, dx, _, _, rfl, ea1, T.c_Spot, T.n_Spot_kind, sp_kind, scal_str, _, rfl, ?_⟩
      refine ifF (kno _ (by simp)) ?_
      refine ⟨_, rfl, a, _, dx, _, _, rfl, ea1, T.c_Spot, T.n_Spot_kind, sp_kind, scal_str, _, rfl, ?_⟩
      obtain ⟨y0, yr, rfl⟩ : ∃ y0 yr, ys = y0 :: yr := by
        cases ys with
        | nil => rw [List.length_nil] at hyl; omega
        | cons x r => exact ⟨x, r, rfl⟩
      obtain ⟨c0, cr, ecs⟩ : ∃ c0 cr, LT.cors ps = c0 :: cr := by
        cases q : LT.cors ps with
        | nil => rw [q] at hall; cases hall
        | cons x r => exact ⟨x, r, rfl⟩
      have hall0 := hall
      rw [ecs] at hall
      have hylr : yr.length ≤ 4 := by rw [List.length_cons] at hyl; omega
      obtain ⟨d0, dr⟩ : DatAt H1 y0 c0 ∧ All2 (DatAt H1) yr cr := by
        cases hall with
        | cons r q => exact ⟨r, q⟩
      have rest : kd ≠ .call → ∀ p, H1 p = none → ∀ q, upd H1 p (.tup [.str kd.nm]) q = none → ∀ r, upd (upd H1 p (.tup [.str kd.nm])) q (.tup (y0 :: yr)) r = none →
          Q (.ref r) (upd (upd (upd H1 p (.tup [.str kd.nm])) q (.tup (y0 :: yr))) r (.tup ([.str kd.nm] ++ (y0 :: yr)))) := fun hkd p hp q hq r hr => by
        have s3 : Same H1 (upd (upd (upd H1 p (.tup [.str kd.nm])) q (.tup (y0 :: yr))) r (.tup ([.str kd.nm] ++ (y0 :: yr)))) := ((Same.put hp).trans (Same.put hq)).trans (Same.put hr)
        refine k _ _ (s1.trans s3) ?_
        have e : (LT.node kd ps).core = .tup (.str kd.nm :: LT.cors ps) := by
          cases kd with
          | call => exact (hkd rfl).elim
          | pick => rfl
          | now => rfl
        rw [e]
        exact .mk upd_same (.cons .str (hall0.imp fun x y h => h.mono (Sn.of s3)))
      by_cases hkd : kd = .call
      · subst hkd
        refine ifT (by decide +kernel) ?_
        refine ⟨_, rfl, D, _, 0, _, rfl, rfl, SqL.of hDs, atI_nat (j := 0) rfl, _, rfl, 1, rfl, D, _, rfl, SqL.of hDs, fun p hp => ?_⟩
        have s2 : Same H1 (upd H1 p (.lst (cutV (y0 :: yr) (some 1) none))) := Same.put hp
        have p2 : upd H1 p (.lst (cutV (y0 :: yr) (some 1) none)) p = some (.lst yr) := by
          rw [upd_same]
          exact congrArg (fun z => some (HO.lst z)) (cut_tail y0 yr)
        generalize upd H1 p (.lst (cutV (y0 :: yr) (some 1) none)) = H2 at s2 p2
        refine ⟨p, _, rfl, .inl ⟨SqL.of p2, fun q hq => ?_⟩⟩
        have s3 : Same H2 (upd H2 q (.tup yr)) := Same.put hq
        have q3 : upd H2 q (.tup yr) q = some (.tup yr) := upd_same
        refine ⟨by show 3 ≤ sizeLine; decide, fun r hr => ?_⟩
        have s4 : Same (upd H2 q (.tup yr)) (upd (upd H2 q (.tup yr)) r (.tup [.str "call", y0, .ref q])) := Same.put hr
        have s14 := (s2.trans s3).trans s4
        refine k _ _ (s1.trans s14) ?_
        have e : (LT.node .call ps).core = .tup [.str "call", c0, .tup cr] := by
          show coreN .call (LT.cors ps) = _
          rw [ecs] <;> rfl
        rw [e]
        exact .mk upd_same (.cons .str (.cons (d0.mono (Sn.of s14)) (.cons (.mk (s4 _ _ q3) (dr.imp fun x y h => h.mono (Sn.of s14))) .nil)))
      · refine ifF (by cases kd with
          | call => exact (hkd rfl).elim
          | pick => decide +kernel
          | now => decide +kernel) ?_
        refine ⟨_, rfl, a, _, dx, _, _, rfl, ea1, T.c_Spot, T.n_Spot_kind, sp_kind, (by show 1 ≤ sizeLine; decide), fun p hp => ?_⟩
        refine ⟨_, rfl, D, _, rfl, .inl ⟨SqL.of ((Same.put hp) _ _ hDs), fun q hq => ?_⟩⟩
        have s3 := Same.put hq (o := .tup (y0 :: yr))
        refine ⟨p, q, [.str kd.nm], y0 :: yr, rfl, rfl, SqT.of (s3 _ _ upd_same), SqT.of upd_same, by simp, sl1000' (by simp; omega), (fun z => by cases z), fun _ r hr => ?_⟩
        exact rest hkd p hp q hq r hr
end
end Mh
namespace Mh
open PySem PySem.Spec PyProof.Rows L2 TL
section
variable {P : Program} {w : World} {K : PySem.W.Frag} {mg : Str → Option Value} {base : Heap}
/-! ### outcome -/
theorem sc_outcome : FnScope ["maker", "spot", "numbers", "root"] ["maker"] (defScope s_outcome) := ⟨rfl, rfl, rfl, by decide +kernel, rfl, by decide +kernel, by decide +kernel⟩
def spOut (K : PySem.W.Frag) : Sp := fun vs H Q _ => ∃ (m cl ak rt wt : Addr) (w0 w1 : Cs) (ys : List V) (nm : List Cs) (roots : List Addr) (ts : List LT), vs = [.ref m] ∧ Mk2 K H m cl ak rt wt w0 w1 ys ∧ H rt = some (.lst (roots.map V.ref)) ∧ roots.length = ts.length ∧ ts.length ≤ 100 ∧
  (∀ (j : Nat) r t, roots[j]? = some r → ts[j]? = some t → Comp K H [] r t ∧ LOk nm 4 t) ∧
  ∀ (H' : Hp) (p : Addr) (vs : List V), Same H H' → H p = none → H' p = some (.lst vs) → All2 (DatAt H') vs (ts.map LT.core) → Q (.ref p) H'
theorem ok_outcome (T : Txt K mg) : CallF P w K mg base 7 "outcome" ["maker"] [] (spOut K) := by
  obtain ⟨fd, F⟩ := T.f_outcome
  have g1 := ok_fw (P := P) (w := w) (base := base) T 5
  have g2 := ok_np (P := P) (w := w) (base := base) T 5
  have g3 := ok_core (P := P) (w := w) (base := base) T 5
  refine ⟨_, fd, [], T.g_outcome, F.kp, F.bindsN (ps := ["maker"]) (fun _ _ _ _ _ _ us hl => match us, hl with | [_], _ => rfl), .nil, okN F sc_outcome (fun vs H Q E h => ?_) fun cdv A outer s H vs Q E hr h => ?_⟩
  · obtain ⟨m, cl, ak, rt, wt, w0, w1, ys, nm, roots, ts, rfl, _⟩ := h
    rfl
  obtain ⟨m, cl, ak, rt, wt, w0, w1, ys, nm, roots, ts, rfl, M, hrt, hlen, hts, hall, k⟩ := h
  refine ⟨_, pss_cons (ps_set (i := 1) sc_outcome.nd rfl (Or.inl rfl) (pf g1 hr (by rfl) (pa_cons (pe_fld (pv 0) rfl) pa_nil)))
    (pss_cons (ps_if (pt_cmpR op_notN (pv 1) pe_non (nomark _)) (pss_one ps_never) pss_nil)
    (pss_cons (ps_set (i := 2) sc_outcome.nd rfl (Or.inr rfl) pe_dnewK)
    (pss_cons (ps_expr (pf g2 hr (by rfl) (pa_cons (pe_fld (pv 0) rfl) (pa_cons (pv 2) (pa_cons (pe_fld (pv 0) rfl) pa_nil)))))
    (pss_one (ps_ret (pe_lc (own := [("root", 3)]) (g := gName 3) (tt := tYes) (te := tCall (spCore K 5) [] E0 (tCons (tVar 3) (tCons (tVar 2) tNil))) rfl sc_outcome.nd (pi_list (pe_fld (pv 0) rfl))
      (blkOk_by (own := [("root", 3)]) (N := ["maker", "spot", "numbers", "root"]) (sc := defScope s_outcome) (by decide +kernel)) (fun _ _ _ _ _ => pg_name (i := 3) sc_outcome.nd rfl (Or.inl rfl)) (fun _ _ _ _ _ => pts_nil)
      (fun _ _ _ _ _ => pf g3 hr (by rfl) (pa_cons (pv 3) (pa_cons (pv 2) pa_nil))))))))), ?_⟩
  obtain ⟨dm, a1, a2, a3, hm⟩ := id M.eob
  have sp : ∀ H', Same H H' → Spots K H' nm 5 rt ts := fun H' s => ⟨roots, s _ _ hrt, hlen, fun j r t h1 h2 => ⟨(hall j r t h1 h2).1.step s (fun _ _ h => by cases h), (hall j r t h1 h2).2⟩⟩
  refine ⟨_, rfl, m, _, dm, _, _, rfl, hm, T.c_Maker, T.n_Maker_roots, mk_roots, rt, nm, ts, rfl, sp H fun b o e => e, ?_⟩
  refine ⟨_, rfl, rfl, _, rfl, ?_⟩
  refine ifF rfl ?_
  intro nb hnb
  have s1 : Same H (upd H nb (.dK [])) := Same.put hnb
  have n1 : upd H nb (.dK []) nb = some (.dK []) := upd_same
  show Ends.nx _ _ (upd H nb (.dK []))
  generalize upd H nb (.dK []) = H1 at s1 n1
  have hm1 := s1 _ _ hm
  refine ⟨_, rfl, m, _, dm, _, _, rfl, hm1, T.c_Maker, T.n_Maker_roots, mk_roots, _, rfl, _, rfl, m, _, dm, _, _, rfl, hm1, T.c_Maker, T.n_Maker_tops, mk_tops, rt, _, _, nm, ts, rfl, sp _ s1, ?_⟩
  refine ⟨_, rfl, m, _, dm, _, _, rfl, hm1, T.c_Maker, T.n_Maker_roots, mk_roots, rt, rfl, ⟨_, SqL.of (s1 _ _ hrt)⟩, fun D hD => ?_⟩
  refine lc_grow (fun j H v => ∀ p, ts[j]? = some p → DatAt H v p.core) (fun j H H' v s h p hp => (h p hp).mono s) (SqL.of (s1 _ _ hrt)) (by rw [List.length_map]; omega) hD (fun _ => rfl) ?_ ?_
  · intro j x H2 Q' hj s2 k2
    rw [List.getElem?_map] at hj
    obtain ⟨sa, hsa, ex⟩ := Option.map_eq_some_iff.mp hj
    subst ex
    have hjl := (List.getElem?_eq_some_iff.mp hsa).1
    have hpj : ts[j]? = some ts[j] := List.getElem?_eq_getElem (by omega)
    obtain ⟨c, o⟩ := hall j sa _ hsa hpj
    refine ⟨_, rfl, _, rfl, sa, nb, nm, ts[j], rfl, s2 _ _ n1, c.step (s1.trans s2) (fun _ _ h => by cases h), o, fun H' v s3 dv => k2 v H' s3 fun p hp => ?_⟩
    rw [hpj] at hp
    rw [← Option.some.inj hp]
    exact dv
  intro H2 zs s2 hDs hyl hy
  rw [List.length_map] at hyl
  refine k H2 D zs (s1.trans s2) (free_back (L := []) (Fr.of_same s1) (fun b hb => by cases hb) hD) hDs ?_
  refine All2.of (by rw [List.length_map]; omega) fun j v dd h1 h2 => ?_
  rw [List.getElem?_map] at h2
  obtain ⟨p, hp, ed⟩ := Option.map_eq_some_iff.mp h2
  rw [← ed]
  exact hy j v h1 p hp
end
end Mh
namespace Mh
open PySem PySem.Spec PyProof.Rows L2 TL
theorem add_lit (a b : Int) : V.int (a + b) = V.int (a + b) := rfl
section
variable {P : Program} {w : World} {K : PySem.W.Frag} {mg : Str → Option Value} {base : Heap}
/-! ### _law_cell -/
theorem sc_cell : FnScope ["_law_script", "_law_k", "_law_number"] ["_law_script", "_law_k"] (defScope s_law_cell) := ⟨rfl, rfl, rfl, by decide +kernel, rfl, by decide +kernel, by decide +kernel⟩
def spCell (K : PySem.W.Frag) : Sp := fun vs H Q _ => ∃ (a : Addr) (ns : List Int) (k : Nat), vs = [.ref a, .int (k : Nat)] ∧ SqL K H a (ns.map V.int) ∧ k ≤ 10000 ∧ ∀ c : Int, Q (.int c) H
theorem ok_cell (T : Txt K mg) : CallF P w K mg base 1 "_law_cell" ["_law_script", "_law_k"] [] (spCell K) := by
  obtain ⟨fd, F⟩ := T.f_law_cell
  refine ⟨_, fd, [], T.g_law_cell, F.kp, F.bindsN (ps := ["_law_script", "_law_k"]) (fun _ _ _ _ _ _ us hl => match us, hl with | [_, _], _ => rfl), .nil, okN F sc_cell (fun vs H Q E h => ?_) fun cdv A outer s H vs Q E hr h => ?_⟩
  · obtain ⟨a, ns, k, rfl, _⟩ := h
    rfl
  obtain ⟨a, ns, k, rfl, ha, hk, q⟩ := h
  refine ⟨_, pss_cons (ps_if (pt_cmpR op_lt (pv 1) (pe_callB call_len_seq (by rfl) T.z_len PySem.boot_len (pa_cons (pv 0) pa_nil)) (nomark _)) (pss_one (ps_ret (pe_ix ix_list (pv 0) (pv 1) (fun _ _ => rfl)))) pss_nil)
    (pss_cons (ps_set (i := 2) sc_cell.nd rfl (Or.inl rfl) (pe_op op_add (pe_op op_mul (pv 1) pe_int) pe_int))
    (pss_cons (ps_if (pt_cmpR op_gt (pe_callB call_len_seq (by rfl) T.z_len PySem.boot_len (pa_cons (pv 0) pa_nil)) pe_int (nomark _))
      (pss_one (ps_set (i := 2) sc_cell.nd rfl (Or.inl rfl) (pe_op op_mod (pe_op op_add (pe_op op_mul (pe_ix ix_list (pv 0) (pe_op op_mod (pe_op op_mul (pv 1) pe_int) (pe_callB call_len_seq (by rfl) T.z_len PySem.boot_len (pa_cons (pv 0) pa_nil))) (fun _ _ => rfl)) pe_int) (pe_op op_mul (pv 1) pe_int)) pe_int))) pss_nil)
    (pss_one (ps_ret (pe_op op_mod (pe_op op_mul (pv 2) (pv 2)) pe_int))))), ?_⟩
  refine ⟨_, rfl, _, rfl, a, _, rfl, .inl ha, _, _, rfl, rfl, _, rfl, ?_⟩
  have hat : ∀ j : Nat, j < ns.length → ∃ c : Int, atI (ns.map V.int) (j : Int) = some (.int c) := fun j hj => ⟨ns[j], atI_nat (by rw [List.getElem?_map, List.getElem?_eq_getElem hj] <;> rfl)⟩
  have hend : ∀ z : Int, -(2 ^ 64) < z → z < 2 ^ 64 → tRet (tOp (rI (fun _ j => 0 < j) fun i j => V.int (i % j)) (tOp (rI CMul fun i j => V.int (i * j)) (tVar 2) (tVar 2)) (tC (V.int 2147483629))) { nx := fun _ H' => Q .non H', rt := Q } [some (.ref a), some (.int (k : Nat)), some (.int z)] H := fun z h1 h2 =>
    ⟨_, rfl, _, rfl, z, z, rfl, rfl, .inl ⟨h1, h2⟩, _, _, rfl, rfl, (show (0 : Int) < 2147483629 by decide), q _⟩
  by_cases hlt : k < ns.length
  · refine ifT (decide_eq_true (by rw [List.length_map]; omega)) ?_
    obtain ⟨c, hc⟩ := hat k hlt
    exact ⟨_, rfl, _, rfl, a, _, _, _, rfl, rfl, ha, hc, q c⟩
  refine ifF (decide_eq_false (by rw [List.length_map]; omega)) ?_
  refine ⟨_, rfl, (k : Nat), _, rfl, rfl, .inr ⟨by decide, by decide⟩, _, _, rfl, rfl, ?_⟩
  refine ⟨_, rfl, a, _, rfl, .inl ha, _, _, rfl, rfl, _, rfl, ?_⟩
  by_cases hz : ns.length = 0
  · refine ifF (decide_eq_false (by rw [List.length_map]; omega)) ?_
    refine hend _ ?_ ?_ <;> omega
  · refine ifT (decide_eq_true (by rw [List.length_map]; omega)) ?_
    obtain ⟨c, hc⟩ := hat (k * 7 % ns.length) (Nat.mod_lt _ (by omega))
    refine ⟨_, rfl, _, rfl, (k : Nat), _, rfl, rfl, .inr ⟨by decide, by decide⟩, _, rfl, a, _, rfl, .inl ha, _, _, rfl, rfl, (by rw [List.length_map]; omega), a, _, _, .int c, rfl, rfl, ha, ?_, c, _, rfl, rfl, .inr ⟨by decide, by decide⟩, _, rfl, (k : Nat), _, rfl, rfl, .inr ⟨by decide, by decide⟩, _, _, rfl, rfl, _, _, rfl, rfl, (show (0 : Int) < 2147483647 by decide), ?_⟩
    · rw [← hc, List.length_map, Int.natCast_emod, Int.natCast_mul] <;> rfl
    refine hend _ ?_ ?_
    · have := Int.emod_nonneg (c * 48271 + (k : Int) * 7919) (b := 2147483647) (by decide)
      omega
    · have := Int.emod_lt_of_pos (c * 48271 + (k : Int) * 7919) (b := 2147483647) (by decide)
      omega
/-! ### _law_whole -/
theorem sc_whole : FnScope ["_law_found"] ["_law_found"] (defScope s_law_whole) := ⟨rfl, rfl, rfl, by decide +kernel, rfl, by decide +kernel, by decide +kernel⟩
def spWhole : Sp := fun vs H Q _ => ∃ i : Int, vs = [.int i] ∧ Q (.bl true) H
end
end Mh
namespace Mh
open PySem PySem.Spec PyProof.Rows L2 TL
def DLe : Nat → Dat → Prop
  | _, .int _ => True
  | _, .str _ => True
  | 0, .tup _ => False
  | n + 1, .tup ds => ds.length ≤ 1000 ∧ ∀ d ∈ ds, DLe n d
theorem DLe.tup {n : Nat} {ds : List Dat} (h : DLe n (.tup ds)) : ∃ k, n = k + 1 ∧ ds.length ≤ 1000 ∧ ∀ d ∈ ds, DLe k d := by
  cases n with
  | zero => unfold DLe at h; exact h.elim
  | succ k => unfold DLe at h; exact ⟨k, rfl, h.1, h.2⟩
section
variable {P : Program} {w : World} {K : PySem.W.Frag} {mg : Str → Option Value} {base : Heap}
/-! ### _law_whole -/
theorem ok_whole (T : Txt K mg) : CallF P w K mg base 1 "_law_whole" ["_law_found"] [] spWhole := by
  obtain ⟨fd, F⟩ := T.f_law_whole
  refine ⟨_, fd, [], T.g_law_whole, F.kp, F.bindsN (ps := ["_law_found"]) (fun _ _ _ _ _ _ us hl => match us, hl with | [_], _ => rfl), .nil, okN F sc_whole (fun vs H Q E h => ?_) fun cdv A outer s H vs Q E hr h => ?_⟩
  · obtain ⟨i, rfl, _⟩ := h
    rfl
  obtain ⟨i, rfl, q⟩ := h
  refine ⟨_, pss_one (ps_ret (pe_and (pe_callB call_isi (by rfl) T.z_isinstance (by decide +kernel) (pa_cons (pv 0) (pa_cons (pe_bltn (v := .ty "int") (by rfl) T.z_int (by decide +kernel) rfl) pa_nil)))
    (pe_one (pe_not (pe_callB call_isi (by rfl) T.z_isinstance (by decide +kernel) (pa_cons (pv 0) (pa_cons (pe_bltn (v := .ty "bool") (by rfl) T.z_bool (by decide +kernel) rfl) pa_nil))))))), ?_⟩
  refine ⟨_, rfl, _, _, _, _, true, rfl, .ty _, .base (.int i), kit_ty (by decide +kernel), true, rfl, ?_⟩
  rw [if_pos rfl]
  refine ⟨_, rfl, _, _, _, _, false, rfl, .ty _, .base (.int i), kit_ty (by decide +kernel), _, rfl, ?_⟩
  exact q
/-! ### _law_alike -/
theorem sc_alike : FnScope ["_law_found", "_law_due", "_law_one", "_law_other"] ["_law_found", "_law_due"] (defScope s_law_alike) := ⟨rfl, rfl, rfl, by decide +kernel, rfl, by decide +kernel, by decide +kernel⟩
def spAlike (n : Nat) : Sp := fun vs H Q _ => ∃ (v v' : V) (d : Dat), vs = [v, v'] ∧ DatAt H v d ∧ DatAt H v' d ∧ DLe n d ∧ ∀ H', Same H H' → Q (.bl true) H'
/-- no tuple: what it is, and how it is compared -/
theorem leaf_cases {H : Hp} {v v' : V} {d : Dat} (h1 : DatAt H v d) (h2 : DatAt H v' d) : (∃ ty : String, TyX K H v (.type ty) ∧ TyX K H v' (.type ty) ∧ PySem.W.kitOne K (.type ty) (.type "tuple") = some false ∧ PySem.W.kitOne K (.type ty) (.type "bool") = some false ∧ scal v v' = true ∧ decide (v = v') = true) ∨
    ∃ (p q : Addr) (vs us : List V) (ds : List Dat), v = .ref p ∧ v' = .ref q ∧ d = .tup ds ∧ H p = some (.tup vs) ∧ H q = some (.tup us) ∧ vs.length = ds.length ∧ us.length = ds.length ∧ (∀ (j : Nat) x dd, vs[j]? = some x → ds[j]? = some dd → DatAt H x dd) ∧ ∀ (j : Nat) x dd, us[j]? = some x → ds[j]? = some dd → DatAt H x dd := by
  cases h1 with
  | int =>
    cases h2 with
    | int => exact .inl ⟨"int", .base (.int _), .base (.int _), kit_ty (by decide +kernel), kit_ty (by decide +kernel), rfl, decide_eq_true rfl⟩
  | str =>
    cases h2 with
    | str => exact .inl ⟨"str", .base (.str _), .base (.str _), kit_ty (by decide +kernel), kit_ty (by decide +kernel), rfl, decide_eq_true rfl⟩
  | tup e1 e2 e3 =>
    cases h2 with
    | tup f1 f2 f3 => exact .inr ⟨_, _, _, _, _, rfl, rfl, rfl, e1, f1, e2, f2, e3, f3⟩
theorem ok_alike (T : Txt K mg) : ∀ n : Nat, CallF P w K mg base (n + 1) "_law_alike" ["_law_found", "_law_due"] [] (spAlike n) := by
  intro n
  induction n with
  | zero =>
    obtain ⟨fd, F⟩ := T.f_law_alike
    refine ⟨_, fd, [], T.g_law_alike, F.kp, F.bindsN (ps := ["_law_found", "_law_due"]) (fun _ _ _ _ _ _ us hl => match us, hl with | [_, _], _ => rfl), .nil, okN F sc_alike (fun vs H Q E h => ?_) fun cdv A outer s H vs Q E hr h => ?_⟩
    · obtain ⟨v, v', d, rfl, _⟩ := h
      rfl
    obtain ⟨v, v', d, rfl, h1, h2, hd, q⟩ := h
    refine ⟨_, pss_cons (ps_if (pt_val (pe_callB call_isi (by rfl) T.z_isinstance (by decide +kernel) (pa_cons (pv 1) (pa_cons (pe_bltn (v := .ty "tuple") (by rfl) T.z_tuple (by decide +kernel) rfl) pa_nil)))) (pss_cons ps_never (pss_one ps_never)) pss_nil)
      (pss_one (ps_ret (pe_and (pe_cmpR op_eq (pe_callB call_isi (by rfl) T.z_isinstance (by decide +kernel) (pa_cons (pv 0) (pa_cons (pe_bltn (v := .ty "bool") (by rfl) T.z_bool (by decide +kernel) rfl) pa_nil))) (pe_callB call_isi (by rfl) T.z_isinstance (by decide +kernel) (pa_cons (pv 1) (pa_cons (pe_bltn (v := .ty "bool") (by rfl) T.z_bool (by decide +kernel) rfl) pa_nil))) (nomark _))
        (pe_one (pe_cmpR op_eq (pv 0) (pv 1) (nomark _)))))), ?_⟩
    rcases leaf_cases (K := K) h1 h2 with ⟨ty, t1, t2, k1, k2, sc, de⟩ | ⟨p, q', vs, us, ds, rfl, rfl, rfl, _⟩
    · refine ⟨_, rfl, _, _, _, _, false, rfl, .ty _, t2, k1, _, rfl, ?_⟩
      refine ifF rfl ?_
      refine ⟨_, rfl, _, _, _, _, false, rfl, .ty _, t1, k2, _, rfl, _, _, _, _, false, rfl, .ty _, t2, k2, rfl, true, rfl, ?_⟩
      rw [if_pos rfl]
      refine ⟨_, rfl, _, rfl, sc, ?_⟩
      rw [de]
      exact q H fun b o e => e
    · obtain ⟨k, ek, _⟩ := hd.tup
      omega
  | succ n ih =>
    obtain ⟨fd, F⟩ := T.f_law_alike
    refine ⟨_, fd, [], T.g_law_alike, F.kp, F.bindsN (ps := ["_law_found", "_law_due"]) (fun _ _ _ _ _ _ us hl => match us, hl with | [_, _], _ => rfl), .nil, okN F sc_alike (fun vs H Q E h => ?_) fun cdv A outer s H vs Q E hr h => ?_⟩
    · obtain ⟨v, v', d, rfl, _⟩ := h
      rfl
    obtain ⟨v, v', d, rfl, h1, h2, hd, q⟩ := h
    refine ⟨_, pss_cons (ps_if (pt_val (pe_callB call_isi (by rfl) T.z_isinstance (by decide +kernel) (pa_cons (pv 1) (pa_cons (pe_bltn (v := .ty "tuple") (by rfl) T.z_tuple (by decide +kernel) rfl) pa_nil))))
        (pss_cons (ps_if (PW.pt (pw_or (pt_not (pt_val (pe_callB call_isi (by rfl) T.z_isinstance (by decide +kernel) (pa_cons (pv 0) (pa_cons (pe_bltn (v := .ty "tuple") (by rfl) T.z_tuple (by decide +kernel) rfl) pa_nil)))))
          (pw_or1 (pt_cmpR op_ne (pe_callB call_len_seq (by rfl) T.z_len PySem.boot_len (pa_cons (pv 0) pa_nil)) (pe_callB call_len_seq (by rfl) T.z_len PySem.boot_len (pa_cons (pv 1) pa_nil)) (nomark _))))) (pss_one (ps_ret pe_bl)) pss_nil)
        (pss_one (ps_ret (pe_callB (cr_all rfl) (by rfl) T.z_all (by decide +kernel) (pa_cons (pe_lc (own := [("_law_one", 2), ("_law_other", 3)]) (g := gTup K 2 (gCons (gName 2) (gCons (gName 3) gNil))) (tt := tYes) (te := tCall (spAlike n) [] E0 (tCons (tVar 2) (tCons (tVar 3) tNil))) rfl sc_alike.nd
          (RZ.pi_zipA (by rfl) T.z_zip (pa_cons (pv 0) (pa_cons (pv 1) pa_nil))) (blkOk_by (own := [("_law_one", 2), ("_law_other", 3)]) (N := ["_law_found", "_law_due", "_law_one", "_law_other"]) (sc := defScope s_law_alike) (by decide +kernel))
          (fun _ _ _ _ _ => pg_tup rfl (pgs_cons (pg_name (i := 2) sc_alike.nd rfl (Or.inl rfl)) (pgs_cons (pg_name (i := 3) sc_alike.nd rfl (Or.inl rfl)) pgs_nil))) (fun _ _ _ _ _ => pts_nil)
          (fun _ _ _ _ _ => pf ih hr (by rfl) (pa_cons (pv 2) (pa_cons (pv 3) pa_nil)))) pa_nil))))) pss_nil)
      (pss_one (ps_ret (pe_and (pe_cmpR op_eq (pe_callB call_isi (by rfl) T.z_isinstance (by decide +kernel) (pa_cons (pv 0) (pa_cons (pe_bltn (v := .ty "bool") (by rfl) T.z_bool (by decide +kernel) rfl) pa_nil))) (pe_callB call_isi (by rfl) T.z_isinstance (by decide +kernel) (pa_cons (pv 1) (pa_cons (pe_bltn (v := .ty "bool") (by rfl) T.z_bool (by decide +kernel) rfl) pa_nil))) (nomark _))
        (pe_one (pe_cmpR op_eq (pv 0) (pv 1) (nomark _)))))), ?_⟩
    rcases leaf_cases (K := K) h1 h2 with ⟨ty, t1, t2, k1, k2, sc, de⟩ | ⟨p, q', vs, us, ds, rfl, rfl, rfl, hp, hq, l1, l2, a1, a2⟩
    · refine ⟨_, rfl, _, _, _, _, false, rfl, .ty _, t2, k1, _, rfl, ?_⟩
      refine ifF rfl ?_
      refine ⟨_, rfl, _, _, _, _, false, rfl, .ty _, t1, k2, _, rfl, _, _, _, _, false, rfl, .ty _, t2, k2, rfl, true, rfl, ?_⟩
      rw [if_pos rfl]
      refine ⟨_, rfl, _, rfl, sc, ?_⟩
      rw [de]
      exact q H fun b o e => e
    · obtain ⟨k, ek, hdl, hda⟩ := hd.tup
      have ek' : k = n := by omega
      subst ek'
      refine ⟨_, rfl, _, _, _, _, true, rfl, .ty _, .base (.tup hq), kit_ty (by decide +kernel), _, rfl, ?_⟩
      refine ifT rfl ?_
      refine ⟨_, rfl, _, _, _, _, true, rfl, .ty _, .base (.tup hp), kit_ty (by decide +kernel), _, rfl, ?_⟩
      refine ifF rfl ?_
      refine ⟨_, rfl, p, _, rfl, .inr (SqT.of hp), _, rfl, q', _, rfl, .inr (SqT.of hq), rfl, _, rfl, ?_⟩
      refine ifF ?_ ?_
      · rw [l1, l2]
        simp
      refine ⟨_, rfl, _, rfl, p, q', vs, us, rfl, .inr ⟨SqT.of hp, SqT.of hq, fun D hD => ?_⟩⟩
      refine lc_it (walk_zipT (K := K) (a := p) (b := q') (xs := vs) (ys := us) (n := ds.length) (by omega)) (fun i H' => Same H H' ∧ H' D = some (.lst (List.replicate i (.bl true)))) ⟨Same.put hD, upd_same⟩ ?_ ?_ ?_
      · rintro i H' _ ⟨s1, _⟩
        exact ⟨SqT.of (s1 _ _ hp), SqT.of (s1 _ _ hq)⟩
      · rintro i x H1 H2 hi ⟨s1, hacc⟩ ⟨Tp, xi, y, rfl, hT, rfl, exi, ey⟩
        have s2 : Same H1 (upd H1 Tp (.tup [xi, y])) := Same.put hT
        have hT2 : upd H1 Tp (.tup [xi, y]) Tp = some (.tup [xi, y]) := upd_same
        have hacc2 := s2 _ _ hacc
        have s12 := s1.trans s2
        generalize upd H1 Tp (.tup [xi, y]) = H3 at s12 hT2 hacc2
        have edd : ds[i]? = some ds[i] := List.getElem?_eq_getElem hi
        refine ⟨Tp, _, rfl, SqT.of hT2, rfl, _, _, rfl, _, _, rfl, rfl, rfl, yes ?_⟩
        refine ⟨_, rfl, _, rfl, xi, y, ds[i], rfl, (a1 i xi _ exi edd).mono (Sn.of s12), (a2 i y _ ey edd).mono (Sn.of s12), hda _ (List.mem_of_getElem? edd), fun H4 s4 => ?_⟩
        refine ⟨_, s4 _ _ hacc2, sl1000 (by rw [List.length_replicate]; omega), fun b o e => ?_, ?_⟩
        · rw [upd_ne (ne_of_none e hD)]
          exact s4 _ _ (s12 _ _ e)
        · rw [upd_same, List.replicate_succ']
      · rintro H1 ⟨s1, hacc⟩
        refine ⟨D, List.replicate ds.length true, rfl, SqL.of (by rw [hacc, List.map_replicate]), ?_⟩
        have e : (List.replicate ds.length true).all id = true := by
          rw [List.all_eq_true]
          intro x hx
          exact (List.mem_replicate.mp hx).2
        rw [e]
        exact q H1 s1
/-! ### _law_all_alike -/
theorem sc_allalike : FnScope ["_law_found", "_law_due"] ["_law_found", "_law_due"] (defScope s_law_all_alike) := ⟨rfl, rfl, rfl, by decide +kernel, rfl, by decide +kernel, by decide +kernel⟩
def spAll (n : Nat) : Sp := fun vs H Q _ => ∃ (p q : Addr) (xs ys : List V) (ds : List Dat), vs = [.ref p, .ref q] ∧ H p = some (.lst xs) ∧ H q = some (.lst ys) ∧ All2 (DatAt H) xs ds ∧ All2 (DatAt H) ys ds ∧ DLe n (.tup ds) ∧ ∀ H', Same H H' → Q (.bl true) H'
theorem ok_all (T : Txt K mg) (n : Nat) : CallF P w K mg base (n + 2) "_law_all_alike" ["_law_found", "_law_due"] [] (spAll n) := by
  obtain ⟨fd, F⟩ := T.f_law_all_alike
  have g1 := ok_alike (P := P) (w := w) (base := base) T n
  refine ⟨_, fd, [], T.g_law_all_alike, F.kp, F.bindsN (ps := ["_law_found", "_law_due"]) (fun _ _ _ _ _ _ us hl => match us, hl with | [_, _], _ => rfl), .nil, okN F sc_allalike (fun vs H Q E h => ?_) fun cdv A outer s H vs Q E hr h => ?_⟩
  · obtain ⟨p, q, xs, ys, ds, rfl, _⟩ := h
    rfl
  obtain ⟨p, q, xs, ys, ds, rfl, hp, hq, h1, h2, hd, k⟩ := h
  refine ⟨_, pss_one (ps_ret (pe_and (pe_callB call_isi (by rfl) T.z_isinstance (by decide +kernel) (pa_cons (pv 0) (pa_cons (pe_bltn (v := .ty "list") (by rfl) T.z_list (by decide +kernel) rfl) pa_nil)))
    (pe_one (pf g1 hr (by rfl) (pa_cons (pe_callTy call_tuple_of (by rfl) T.z_tuple boot_tuple (pa_cons (pv 0) pa_nil)) (pa_cons (pe_callTy call_tuple_of (by rfl) T.z_tuple boot_tuple (pa_cons (pv 1) pa_nil)) pa_nil)))))), ?_⟩
  refine ⟨_, rfl, _, _, _, _, true, rfl, .ty _, .base (.lst hp), kit_ty (by decide +kernel), true, rfl, ?_⟩
  rw [if_pos rfl]
  refine ⟨_, rfl, p, _, rfl, .inl ⟨SqL.of hp, fun a ha => ?_⟩⟩
  have s1 := Same.put ha (o := .tup xs)
  refine ⟨_, rfl, q, _, rfl, .inl ⟨SqL.of (s1 _ _ hq), fun b hb => ?_⟩⟩
  have s2 := Same.put hb (o := .tup ys)
  have s12 := s1.trans s2
  exact ⟨.ref a, .ref b, .tup ds, rfl, .mk (s2 _ _ upd_same) (h1.imp fun x y h => h.mono (Sn.of s12)), .mk upd_same (h2.imp fun x y h => h.mono (Sn.of s12)), hd, fun H' s => k H' (s12.trans s)⟩
end
end Mh
namespace Mh
open PySem PySem.Spec PyProof.Rows L2 TL
/-! ### the five names, plainly -/
def rawN (b : Cs) (p : Nat) (A : Bool) (l : Nat → Nat) (d k : Nat) : Cs := if A = true then b.take p ++ ([l k] ++ b.drop (p + 1)) else b ++ List.replicate k d
def fixN (w : Cs) : Cs := if w ∈ cores then w ++ [120] else w
def nameN (b : Cs) (p : Nat) (A : Bool) (l : Nat → Nat) (d k : Nat) : Cs := fixN (rawN b p A l d k)
def letC (c : Nat) : Prop := 97 ≤ c ∧ c ≤ 122
structure NmIn (b : Cs) (p : Nat) (l : Nat → Nat) (d : Nat) : Prop where
  lb : ∀ c ∈ b, letC c
  len : b.length ≤ 6
  hp : p < b.length
  ll : ∀ k, letC (l k)
  li : ∀ i j, i < 5 → j < 5 → l i = l j → i = j
  hd : 48 ≤ d ∧ d ≤ 57
theorem fix_core {w : Cs} (h : w ∈ cores) : ¬ (w ++ [120]) ∈ cores := by
  unfold cores at h
  simp only [List.mem_cons, List.not_mem_nil, or_false] at h
  rcases h with rfl | rfl | rfl | rfl <;> decide
theorem fixN_nc (w : Cs) : ¬ fixN w ∈ cores := by
  unfold fixN
  by_cases h : w ∈ cores
  · rw [if_pos h]
    exact fix_core h
  · rw [if_neg h]
    exact h
theorem core_let {w : Cs} (h : w ∈ cores) : ∀ c ∈ w, letC c := by
  unfold cores at h
  simp only [List.mem_cons, List.not_mem_nil, or_false] at h
  unfold letC
  rcases h with rfl | rfl | rfl | rfl <;> decide
section
variable {b : Cs} {p : Nat} {A : Bool} {l : Nat → Nat} {d : Nat}
theorem raw_len (N : NmIn b p l d) (k : Nat) : (rawN b p true l d k).length = b.length := by
  unfold rawN
  rw [if_pos rfl, List.length_append, List.length_append, List.length_take, List.length_drop, List.length_singleton]
  have := N.hp
  omega
theorem raw_mem (N : NmIn b p l d) (k : Nat) : ∀ c ∈ rawN b p A l d k, wordC c := by
  intro c hc
  unfold rawN at hc
  cases A with
  | true =>
    rw [if_pos rfl] at hc
    rcases List.mem_append.mp hc with hc | hc
    · exact .inl (N.lb c (List.mem_of_mem_take hc))
    · rcases List.mem_append.mp hc with hc | hc
      · rw [List.mem_singleton.mp hc]
        exact .inl (N.ll k)
      · exact .inl (N.lb c (List.mem_of_mem_drop hc))
  | false =>
    rw [if_neg Bool.false_ne_true] at hc
    rcases List.mem_append.mp hc with hc | hc
    · exact .inl (N.lb c hc)
    · rw [(List.mem_replicate.mp hc).2]
      exact .inr N.hd
theorem raw_first (N : NmIn b p l d) (k : Nat) : ∃ c r, rawN b p A l d k = c :: r ∧ letC c := by
  have hb := N.hp
  cases b with
  | nil => simp at hb
  | cons c r =>
    have hc := N.lb c List.mem_cons_self
    unfold rawN
    cases A with
    | true =>
      rw [if_pos rfl]
      cases p with
      | zero => exact ⟨l k, _, rfl, N.ll k⟩
      | succ p => exact ⟨c, _, rfl, hc⟩
    | false =>
      rw [if_neg Bool.false_ne_true]
      exact ⟨c, _, rfl, hc⟩
theorem raw_small (N : NmIn b p l d) {k : Nat} (hk : k < 5) : (rawN b p A l d k).length ≤ 11 := by
  cases A with
  | true =>
    rw [raw_len N]
    have := N.len
    omega
  | false =>
    unfold rawN
    rw [if_neg Bool.false_ne_true, List.length_append, List.length_replicate]
    have := N.len
    omega
theorem fix_ok {w : Cs} (h1 : ∃ c r, w = c :: r ∧ letC c) (h2 : ∀ c ∈ w, wordC c) (h3 : w.length ≤ 11) : WdOk (fixN w) := by
  obtain ⟨c, r, e, hc⟩ := h1
  unfold fixN
  by_cases h : w ∈ cores
  · rw [if_pos h]
    refine ⟨⟨c, r ++ [120], by rw [e] <;> rfl, hc.1, hc.2⟩, fun x hx => ?_, by rw [List.length_append, List.length_singleton]; omega⟩
    rcases List.mem_append.mp hx with hx | hx
    · exact h2 x hx
    · rw [List.mem_singleton.mp hx]
      exact .inl ⟨by decide, by decide⟩
  · rw [if_neg h]
    exact ⟨⟨c, r, e, hc.1, hc.2⟩, h2, by omega⟩
theorem raw_inj (N : NmIn b p l d) {i j : Nat} (hi : i < 5) (hj : j < 5) (h : rawN b p A l d i = rawN b p A l d j) : i = j := by
  cases A with
  | true =>
    unfold rawN at h
    rw [if_pos rfl, if_pos rfl] at h
    have h2 := List.append_cancel_left h
    injection h2 with h3 _
    exact N.li i j hi hj h3
  | false =>
    unfold rawN at h
    rw [if_neg Bool.false_ne_true, if_neg Bool.false_ne_true] at h
    have h2 := congrArg List.length h
    rw [List.length_append, List.length_append, List.length_replicate, List.length_replicate] at h2
    omega
theorem raw_x (N : NmIn b p l d) {i j : Nat} (hc : rawN b p A l d i ∈ cores) : rawN b p A l d i ++ [120] ≠ rawN b p A l d j := by
  intro h
  cases A with
  | true =>
    have h2 := congrArg List.length h
    rw [List.length_append, List.length_singleton, raw_len N, raw_len N] at h2
    omega
  | false =>
    have hl := core_let hc
    unfold rawN at h hl
    rw [if_neg Bool.false_ne_true, if_neg Bool.false_ne_true] at h
    rw [if_neg Bool.false_ne_true] at hl
    have hd := N.hd
    have i0 : i = 0 := by
      cases i with
      | zero => rfl
      | succ i =>
        have := (hl d (List.mem_append_right _ (List.mem_replicate.mpr ⟨by omega, rfl⟩))).1
        omega
    subst i0
    rw [List.replicate_zero, List.append_nil] at h
    have h2 := List.append_cancel_left h
    have : (120 : Nat) ∈ List.replicate j d := by rw [← h2]; simp
    have := (List.mem_replicate.mp this).2
    omega
theorem name_inj (N : NmIn b p l d) {i j : Nat} (hi : i < 5) (hj : j < 5) (h : nameN b p A l d i = nameN b p A l d j) : i = j := by
  unfold nameN fixN at h
  by_cases h1 : rawN b p A l d i ∈ cores
  · rw [if_pos h1] at h
    by_cases h2 : rawN b p A l d j ∈ cores
    · rw [if_pos h2] at h
      exact raw_inj N hi hj (List.append_cancel_right h)
    · rw [if_neg h2] at h
      exact (raw_x N h1 h).elim
  · rw [if_neg h1] at h
    by_cases h2 : rawN b p A l d j ∈ cores
    · rw [if_pos h2] at h
      exact (raw_x N h2 h.symm).elim
    · rw [if_neg h2] at h
      exact raw_inj N hi hj h
theorem names_ok (N : NmIn b p l d) : Names ((List.range 5).map (nameN b p A l d)) := by
  refine ⟨by simp, fun w hw => ?_, fun w hw => ?_, ?_⟩
  · obtain ⟨k, hk, e⟩ := List.mem_map.mp hw
    rw [← e]
    exact fix_ok (raw_first N k) (raw_mem N k) (raw_small N (List.mem_range.mp hk))
  · obtain ⟨k, hk, e⟩ := List.mem_map.mp hw
    rw [← e]
    exact fixN_nc _
  · refine List.pairwise_map.mpr (List.Pairwise.imp_of_mem (fun {i j} hi hj hij h => ?_) (List.nodup_range (n := 5)))
    exact hij (name_inj N (List.mem_range.mp hi) (List.mem_range.mp hj) h)
end
/-! ### signs at places -/
theorem let_at {i : Int} (h1 : 0 ≤ i) (h2 : i < 26) : atI (S LET).cps.toList i = some (97 + i.toNat) := by
  obtain ⟨n, rfl⟩ : ∃ n : Nat, i = n := ⟨i.toNat, by omega⟩
  rw [show (S LET).cps.toList = LET from tl_S _, Int.toNat_natCast]
  refine atI_nat ?_
  have hn : n < 26 := by omega
  have e : ∀ n : Fin 26, LET[n.val]? = some (97 + n.val) := by decide
  exact e ⟨n, hn⟩
theorem fig_at {i : Int} (h1 : 0 ≤ i) (h2 : i < 10) : atI (S FIG).cps.toList i = some (48 + i.toNat) := by
  obtain ⟨n, rfl⟩ : ∃ n : Nat, i = n := ⟨i.toNat, by omega⟩
  rw [show (S FIG).cps.toList = FIG from tl_S _, Int.toNat_natCast]
  refine atI_nat ?_
  have hn : n < 10 := by omega
  have e : ∀ n : Fin 10, FIG[n.val]? = some (48 + n.val) := by decide
  exact e ⟨n, hn⟩
theorem cut_take (b : Cs) (p : Nat) : cutS (S b) none (some (p : Int)) = S (b.take p) := by
  refine ext_tl ?_
  show (((S b).cps.toList.drop (HT.sIx (S b).length 0 none)).take (HT.sIx (S b).length (S b).length (some (p : Int)) - HT.sIx (S b).length 0 none)) = b.take p
  rw [HT.sIx_none, HT.sIx_nat, S_len, show (S b).cps.toList = b from tl_S _, List.drop_zero, Nat.sub_zero, ← List.take_take, List.take_length]
theorem cut_drop (b : Cs) (p : Nat) : cutS (S b) (some (p : Int)) none = S (b.drop p) := by
  refine ext_tl ?_
  show (((S b).cps.toList.drop (HT.sIx (S b).length 0 (some (p : Int)))).take (HT.sIx (S b).length (S b).length none - HT.sIx (S b).length 0 (some (p : Int)))) = b.drop p
  rw [HT.sIx_none, HT.sIx_nat, S_len, show (S b).cps.toList = b from tl_S _]
  by_cases h : p ≤ b.length
  · rw [Nat.min_eq_left h, List.take_of_length_le (by rw [List.length_drop]; omega)]
  · rw [Nat.min_eq_right (by omega), List.drop_length, List.drop_of_length_le (by omega), List.take_nil]
theorem mul_S (d k : Nat) (hk : k < 5) : MulOk (S [d]) (k : Int) ∧ Txt.mul (S [d]) (k : Int) = S (List.replicate k d) := by
  have h : k = 0 ∨ k = 1 ∨ k = 2 ∨ k = 3 ∨ k = 4 := by omega
  have ok : MulOk (S [d]) (k : Int) := by
    unfold MulOk
    rw [S_len, List.length_singleton]
    refine ⟨by rcases h with rfl | rfl | rfl | rfl | rfl <;> decide, fun h1 _ => ?_, fun h1 _ => ?_⟩
    · rcases h with rfl | rfl | rfl | rfl | rfl
      · exact absurd (by decide) h1
      all_goals decide
    · rcases h with rfl | rfl | rfl | rfl | rfl
      · exact absurd (by decide) h1
      all_goals decide
  refine ⟨ok, ?_⟩
  rcases h with rfl | rfl | rfl | rfl | rfl <;> rfl
theorem joinL_nil_single : ∀ xs : List Nat, joinL [] (xs.map fun c => [c]) = xs
  | [] => rfl
  | [x] => rfl
  | x :: y :: r => by
    show [x] ++ ([] ++ joinL [] ((y :: r).map fun c => [c])) = x :: y :: r
    rw [joinL_nil_single (y :: r)]
    rfl
theorem join_S (a : Cs) (ys : List Cs) : Txt.join (S a) (ys.map S) = S (joinL a ys) := by
  refine ext_tl ?_
  rw [join_eq, tl_join, List.map_map]
  show joinL a (ys.map (tl ∘ S)) = joinL a ys
  have e : ys.map (tl ∘ S) = ys := by
    have : (tl ∘ S) = (id : Cs → Cs) := funext fun x => tl_S x
    rw [this, List.map_id]
  rw [e]
end Mh
namespace Mh
open PySem PySem.Spec PyProof.Rows L2 TL
def nmV (nm : List Cs) : List V := nm.map fun w => V.str (S w)
theorem sum_ones : ∀ l : List Nat, (((l.map fun x => [x]).map S).map fun x => x.length).sum = l.length
  | [] => rfl
  | x :: l => by
    rw [List.map_cons, List.map_cons, List.map_cons, List.sum_cons, sum_ones l, S_len]
    show 1 + l.length = l.length + 1
    omega
section
variable {P : Program} {w : World} {K : PySem.W.Frag} {mg : Str → Option Value} {base : Heap}
/-! ### _law_names -/
def nmN : List Str := ["_law_cell_here", "_law_many", "_law_letters", "_law_base", "_law_at", "_law_names_here", "_law_k", "_law_name"]
theorem sc_names : FnScope ["_law_cell_here", "_law_many", "_law_letters", "_law_base", "_law_at", "_law_names_here", "_law_k", "_law_name"] ["_law_cell_here", "_law_many"] (defScope s_law_names) := ⟨rfl, rfl, rfl, by decide +kernel, rfl, by decide +kernel, by decide +kernel⟩
def spNames (K : PySem.W.Frag) : Sp := fun vs H Q _ => ∃ c : Int, vs = [.int c, .int 5] ∧ ∀ (H' : Hp) (p : Addr) (nm : List Cs), Names nm → Same H H' → H p = none → H' p = some (.lst (nmV nm)) → Q (.ref p) H'
theorem l_x : ("x" : Str) = S [120] := by decide +kernel
theorem ok_names (T : Txt K mg) : CallF P w K mg base 1 "_law_names" ["_law_cell_here", "_law_many"] [] (spNames K) := by
  obtain ⟨fd, F⟩ := T.f_law_names
  refine ⟨_, fd, [], T.g_law_names, F.kp, F.bindsN (ps := ["_law_cell_here", "_law_many"]) (fun _ _ _ _ _ _ us hl => match us, hl with | [_, _], _ => rfl), .nil, okN F sc_names (fun vs H Q E h => ?_) fun cdv A outer s H vs Q E hr h => ?_⟩
  · obtain ⟨c, rfl, _⟩ := h
    rfl
  obtain ⟨c, rfl, k⟩ := h
  refine ⟨_, pss_cons (ps_set (i := 2) sc_names.nd rfl (Or.inr rfl) pe_str)
    (pss_cons (ps_set (i := 3) sc_names.nd rfl (Or.inl rfl) (pe_join pe_str (pe_lc (own := [("_law_k", 6)]) (g := gName 6) (tt := tYes) rfl sc_names.nd (pi_range1 (by rfl) T.z_range (pa_cons (pe_op op_add pe_int (pe_op op_mod (pv 0) pe_int)) pa_nil))
      (blkOk_by (own := [("_law_k", 6)]) (N := ["_law_cell_here", "_law_many", "_law_letters", "_law_base", "_law_at", "_law_names_here", "_law_k", "_law_name"]) (sc := defScope s_law_names) (by decide +kernel)) (fun _ _ _ _ _ => pg_name (i := 6) sc_names.nd rfl (Or.inl rfl)) (fun _ _ _ _ _ => pts_nil)
      (fun _ _ _ _ _ => pe_ix ix_str (pv 2) (pe_op op_mod (pe_op op_add (pe_op op_mod (pv 0) pe_int) (pe_op op_mul pe_int (pv 6))) pe_int) (fun _ _ => rfl)))))
    (pss_cons (ps_set (i := 4) sc_names.nd rfl (Or.inl rfl) (pe_op op_mod (pe_op op_fdiv (pv 0) pe_int) (pe_callB call_len_str (by rfl) T.z_len PySem.boot_len (pa_cons (pv 3) pa_nil))))
    (pss_cons (ps_set (i := 5) sc_names.nd rfl (Or.inl rfl) (pe_lst pa_nil))
    (pss_cons (ps_for PassesOwn.never rfl (pi_range1 (by rfl) T.z_range (pa_cons (pv 1) pa_nil)) (pg_name (i := 6) sc_names.nd rfl (Or.inl rfl))
      (pss_cons (ps_set (i := 7) sc_names.nd rfl (Or.inl rfl) (pe_op op_add_str (pe_op op_add_str (pe_slice sl_str (pv 3) po_none (po_some (pv 4))) (pe_ix ix_str (pv 2) (pe_op op_mod (pe_op op_add (pe_op op_fdiv (pv 0) pe_int) (pv 6)) pe_int) (fun _ _ => rfl))) (pe_slice sl_str (pv 3) (po_some (pe_op op_add (pv 4) pe_int)) po_none)))
      (pss_cons (ps_if (pt_cmpR op_eq (pe_op op_mod (pe_op op_fdiv (pv 0) pe_int) pe_int) pe_int (nomark _)) (pss_one (ps_set (i := 7) sc_names.nd rfl (Or.inl rfl) (pe_op op_add_str (pv 3) (pe_op op_mul_str (pe_ix ix_str pe_str (pe_op op_mod (pe_op op_fdiv (pv 0) pe_int) pe_int) (fun _ _ => rfl)) (pv 6))))) pss_nil)
      (pss_cons (ps_if (pt_cmpR op_in_seq (pv 7) (pe_tup (pa_cons pe_str (pa_cons pe_str (pa_cons pe_str (pa_cons pe_str pa_nil))))) rfl) (pss_one (ps_set (i := 7) sc_names.nd rfl (Or.inl rfl) (pe_op op_add_str (pv 7) pe_str))) pss_nil)
      (pss_one (ps_expr (pe_bm PySem.F.plainAttrs_list PySem.F.slot_list_append PySem.F.type_list_append mt_append (pv 5) (pa_cons (pv 7) pa_nil))))))))
    (pss_one (ps_ret (pv 5))))))), ?_⟩
  rw [l_let]
  have hm6 : 0 ≤ c % 6 := Int.emod_nonneg _ (by decide)
  have hm6' : c % 6 < 6 := Int.emod_lt_of_pos _ (by decide)
  have e6 : (1 + c % 6).toNat ≤ 6 := by omega
  refine ⟨⟨_, rfl⟩, _, rfl, _, _, rfl, rfl, (show (0 : Int) < 6 by decide), _, _, rfl, rfl, _, rfl, by omega, by omega, fun D hD => ?_⟩
  refine lc_range (fun i H' => H' = upd H D (.lst ((List.range i).map fun j : Nat => V.str (S [97 + ((c % 10007 + 7 * (j : Int)) % 26).toNat])))) rfl ?_ ?_
  · rintro i H' hi rfl
    refine ⟨rfl, yes ?_⟩
    have hj0 : 0 ≤ (c % 10007 + 7 * (0 + (i : Int))) % 26 := Int.emod_nonneg _ (by decide)
    have hj1 : (c % 10007 + 7 * (0 + (i : Int))) % 26 < 26 := Int.emod_lt_of_pos _ (by decide)
    refine ⟨_, rfl, _, rfl, _, _, rfl, rfl, (show (0 : Int) < 10007 by decide), _, rfl, _, _, rfl, rfl, .inl ⟨by decide, by decide⟩, _, _, rfl, rfl, _, _, rfl, rfl, (show (0 : Int) < 26 by decide), _, _, _, rfl, rfl, (by decide), let_at hj0 hj1, _, upd_same, sl1000 (by rw [List.length_map, List.length_range]; omega), ?_⟩
    show upd _ _ _ = _
    rw [upd_upd, List.range_succ, List.map_append, Int.zero_add] <;> rfl
  rintro H1 rfl
  have s1 : Same H (upd H D (.lst ((List.range (1 + c % 6).toNat).map fun j : Nat => V.str (S [97 + ((c % 10007 + 7 * (j : Int)) % 26).toNat])))) := Same.put hD
  obtain ⟨b, hb⟩ : ∃ b : Cs, b = (List.range (1 + c % 6).toNat).map fun j : Nat => 97 + ((c % 10007 + 7 * (j : Int)) % 26).toNat := ⟨_, rfl⟩
  have d1 : upd H D (.lst ((List.range (1 + c % 6).toNat).map fun j : Nat => V.str (S [97 + ((c % 10007 + 7 * (j : Int)) % 26).toNat]))) D = some (.lst (((b.map fun x => [x]).map S).map V.str)) := by
    rw [upd_same, hb, List.map_map, List.map_map, List.map_map] <;> rfl
  generalize upd H D (.lst ((List.range (1 + c % 6).toNat).map fun j : Nat => V.str (S [97 + ((c % 10007 + 7 * (j : Int)) % 26).toNat]))) = H1 at s1 d1
  have hbl : b.length = (1 + c % 6).toNat := by rw [hb, List.length_map, List.length_range]
  have hblet : ∀ x ∈ b, letC x := fun x hx => by
    rw [hb] at hx
    obtain ⟨j, _, e⟩ := List.mem_map.mp hx
    have hj0 : 0 ≤ (c % 10007 + 7 * (j : Int)) % 26 := Int.emod_nonneg _ (by decide)
    have hj1 : (c % 10007 + 7 * (j : Int)) % 26 < 26 := Int.emod_lt_of_pos _ (by decide)
    rw [← e]
    exact ⟨by omega, by omega⟩
  refine ⟨_, D, _, rfl, rfl, .inl (SqL.of d1), ?_, ?_⟩
  · have := sum_ones b
    rw [this, List.length_map, List.length_map, l_nil, S_len]
    simp
    omega
  rw [l_nil, join_S, joinL_nil_single]
  -- the place
  obtain ⟨p, hp, hpl⟩ : ∃ p : Nat, (c / 7) % ((b.length : Nat) : Int) = p ∧ p < b.length := by
    have h1 : 0 ≤ (c / 7) % ((b.length : Nat) : Int) := Int.emod_nonneg _ (by omega)
    have h2 : (c / 7) % ((b.length : Nat) : Int) < ((b.length : Nat) : Int) := Int.emod_lt_of_pos _ (by omega)
    exact ⟨((c / 7) % ((b.length : Nat) : Int)).toNat, by omega, by omega⟩
  refine ⟨_, rfl, _, _, rfl, rfl, ⟨by decide, by decide⟩, _, rfl, S b, rfl, (by rw [S_len]; exact sl1000' (by omega)), _, _, rfl, rfl, (by rw [S_len]; omega), ?_⟩
  show Ends.nx _ (List.set _ 4 (some (V.int (_ % _)))) _
  rw [S_len, hp]
  refine ⟨Nat.zero_le _, fun L hL => ?_⟩
  have s2 : Same H (upd H1 L (.lst [])) := s1.trans (Same.put hL)
  have L2 : upd H1 L (.lst []) L = some (.lst []) := upd_same
  have hLH : H L = none := free_back (L := []) (Fr.of_same s1) (fun b hb => by cases hb) hL
  show Ends.nx _ _ (upd H1 L (.lst []))
  generalize upd H1 L (.lst []) = H2 at s2 L2
  -- the names
  obtain ⟨l, hl⟩ : ∃ l : Nat → Nat, ∀ k : Nat, l k = 97 + ((c / 5 + (k : Int)) % 26).toNat := ⟨fun k => 97 + ((c / 5 + (k : Int)) % 26).toNat, fun k => rfl⟩
  obtain ⟨d, hd⟩ : ∃ d : Nat, d = 48 + (c / 5 % 10).toNat := ⟨_, rfl⟩
  have N : NmIn b p l d := by
    refine ⟨hblet, by omega, hpl, fun k => ?_, fun i j hi hj e => ?_, ?_⟩
    · rw [hl]
      have h1 : 0 ≤ (c / 5 + (k : Int)) % 26 := Int.emod_nonneg _ (by decide)
      have h2 : (c / 5 + (k : Int)) % 26 < 26 := Int.emod_lt_of_pos _ (by decide)
      exact ⟨by omega, by omega⟩
    · rw [hl, hl] at e
      omega
    · have h1 : 0 ≤ c / 5 % 10 := Int.emod_nonneg _ (by decide)
      have h2 : c / 5 % 10 < 10 := Int.emod_lt_of_pos _ (by decide)
      omega
  obtain ⟨B, hB⟩ : ∃ B : Bool, B = !decide (V.int (c / 11 % 3) = V.int 0) := ⟨_, rfl⟩
  refine ⟨_, rfl, _, rfl, by decide, by decide, for_range (fun i σ H' => ∃ v6 v7 : Option V, σ = [some (.int c), some (.int 5), some (.str (S LET)), some (.str (S b)), some (.int (p : Nat)), some (.ref L), v6, v7] ∧ Same H H' ∧ H' L = some (.lst (nmV ((List.range i).map (nameN b p B l d))))) ⟨_, _, rfl, s2, L2⟩ ?_ ?_⟩
  · rintro i σ H3 hi ⟨v6, v7, rfl, s3, e3⟩
    rw [Int.zero_add]
    have hi5 : i < 5 := hi
    have h1 : 0 ≤ (c / 5 + (i : Int)) % 26 := Int.emod_nonneg _ (by decide)
    have h2 : (c / 5 + (i : Int)) % 26 < 26 := Int.emod_lt_of_pos _ (by decide)
    have h3 : 0 ≤ c / 5 % 10 := Int.emod_nonneg _ (by decide)
    have h4 : c / 5 % 10 < 10 := Int.emod_lt_of_pos _ (by decide)
    refine ⟨_, rfl, _, rfl, (p : Int), rfl, S b, rfl, (by rw [S_len]; exact sl1000' (by omega)), _, rfl, _, rfl, _, _, rfl, rfl, ⟨by decide, by decide⟩, _, rfl, _, _, rfl, rfl, _, _, rfl, rfl, (show (0 : Int) < 26 by decide), _, _, _, rfl, rfl, (by decide), let_at h1 h2, _, _, rfl, rfl, ?_, _, rfl, _, rfl, _, _, rfl, rfl, _, rfl, S b, rfl, (by rw [S_len]; exact sl1000' (by omega)), _, _, rfl, rfl, ?_, ?_⟩
    · rw [cut_take, S_len]
      refine sl1000' ?_
      show (b.take p).length + 1 ≤ 1000
      rw [List.length_take]
      omega
    · show (cutS (S b) none (some (p : Int)) ++ S [97 + ((c / 5 + (i : Int)) % 26).toNat]).length + (cutS (S b) (some ((p + 1 : Nat) : Int)) none).length ≤ sizeLine
      rw [cut_take, cut_drop, S_app, S_len, S_len, List.length_append, List.length_take, List.length_drop, List.length_singleton]
      exact sl1000' (by omega)
    have key : cutS (S b) none (some (p : Int)) ++ (S [97 + ((c / 5 + (i : Int)) % 26).toNat]) ++ cutS (S b) (some ((p + 1 : Nat) : Int)) none = S (rawN b p true l d i) := by
      unfold rawN
      rw [if_pos rfl, cut_take, cut_drop, S_app, S_app, hl, List.append_assoc]
    show Ends.nx _ (List.set _ 7 (some (V.str (cutS (S b) none (some (p : Int)) ++ (S [97 + ((c / 5 + (i : Int)) % 26).toNat]) ++ cutS (S b) (some ((p + 1 : Nat) : Int)) none)))) _
    rw [key]
    refine ⟨_, rfl, _, _, rfl, rfl, ⟨by decide, by decide⟩, _, _, rfl, rfl, (show (0 : Int) < 3 by decide), rfl, _, rfl, ?_⟩
    cases hBc : decide (V.int (c / 11 % 3) = V.int 0) with
    | true =>
      have hBt : rawN b p false l d i = rawN b p B l d i := by rw [hB, hBc] <;> rfl
      refine ifT rfl ?_
      refine ⟨_, rfl, _, rfl, _, _, rfl, rfl, ⟨by decide, by decide⟩, _, _, rfl, rfl, (show (0 : Int) < 10 by decide), S FIG, _, _, by rw [l_fig], rfl, (by decide), fig_at h3 h4, _, rfl, S [d], (i : Int), by rw [hd] <;> rfl, rfl, (mul_S d i hi5).1, _, _, rfl, rfl, ?_, ?_⟩
      · rw [(mul_S d i hi5).2, S_len, S_len, List.length_replicate]
        exact sl1000' (by omega)
      show Ends.nx _ (List.set _ 7 (some (V.str (_ ++ _)))) _
      rw [(mul_S d i hi5).2, S_app]
      show Ends.nx _ (List.set _ 7 (some (V.str (S (rawN b p false l d i))))) _
      refine ⟨_, rfl, (by show 4 ≤ sizeLine; decide), fun tp htp => ?_⟩
      have s4 : Same H3 (upd H3 tp (.tup CORE)) := Same.put htp
      have t4 : upd H3 tp (.tup CORE) tp = some (.tup CORE) := upd_same
      show rIn _ _ _ _ (upd H3 tp (.tup CORE)) _
      generalize upd H3 tp (.tup CORE) = H4 at s4 t4
      refine ⟨tp, CORE, rfl, .inr (SqT.of t4), rfl, rfl, ?_⟩
      refine ⟨_, rfl, ?_⟩
      have e4 := s4 _ _ e3
      have fin : ∀ wd : Cs, wd = nameN b p B l d i → Same H (upd H4 L (.lst (nmV ((List.range i).map (nameN b p B l d)) ++ [.str (S wd)]))) ∧ upd H4 L (.lst (nmV ((List.range i).map (nameN b p B l d)) ++ [.str (S wd)])) L = some (.lst (nmV ((List.range (i + 1)).map (nameN b p B l d)))) := fun wd ew => by
        refine ⟨fun b2 o e => ?_, ?_⟩
        · rw [upd_ne (ne_of_none e hLH)]
          exact s4 _ _ (s3 _ _ e)
        · rw [upd_same, ew, List.range_succ, List.map_append]
          unfold nmV
          rw [List.map_append] <;> rfl
      have hlen : (nmV ((List.range i).map (nameN b p B l d))).length < sizeLine := sl1000 (by unfold nmV; rw [List.length_map, List.length_map, List.length_range]; omega)
      by_cases hc : rawN b p B l d i ∈ cores
      · refine ifT ?_ ?_
        · show inV (.str (S _)) CORE = true
          rw [inV_core, hBt]
          exact decide_eq_true hc
        refine ⟨_, rfl, _, _, rfl, rfl, ?_, ?_⟩
        · rw [l_x, S_len, S_len, hBt]
          refine sl1000' ?_
          have := raw_small (A := B) N hi5
          rw [List.length_singleton]
          omega
        show Ends.nx _ (List.set _ 7 (some (V.str (_ ++ _)))) _
        rw [l_x, S_app]
        refine ⟨_, rfl, .inl ⟨rfl, _, SqL.of e4⟩, _, rfl, L, _, _, rfl, rfl, e4, hlen, ?_⟩
        obtain ⟨f1, f2⟩ := fin ((rawN b p false l d i) ++ [120]) (by unfold nameN fixN; rw [if_pos hc, hBt])
        exact ⟨_, _, rfl, f1, f2⟩
      · refine ifF ?_ ?_
        · show inV (.str (S _)) CORE = false
          rw [inV_core, hBt]
          exact decide_eq_false hc
        refine ⟨_, rfl, .inl ⟨rfl, _, SqL.of e4⟩, _, rfl, L, _, _, rfl, rfl, e4, hlen, ?_⟩
        obtain ⟨f1, f2⟩ := fin (rawN b p false l d i) (by unfold nameN fixN; rw [if_neg hc, hBt])
        exact ⟨_, _, rfl, f1, f2⟩
    | false =>
      have hBt : rawN b p true l d i = rawN b p B l d i := by rw [hB, hBc] <;> rfl
      refine ifF rfl ?_
      refine ⟨_, rfl, (by show 4 ≤ sizeLine; decide), fun tp htp => ?_⟩
      have s4 : Same H3 (upd H3 tp (.tup CORE)) := Same.put htp
      have t4 : upd H3 tp (.tup CORE) tp = some (.tup CORE) := upd_same
      show rIn _ _ _ _ (upd H3 tp (.tup CORE)) _
      generalize upd H3 tp (.tup CORE) = H4 at s4 t4
      refine ⟨tp, CORE, rfl, .inr (SqT.of t4), rfl, rfl, ?_⟩
      refine ⟨_, rfl, ?_⟩
      have e4 := s4 _ _ e3
      have fin : ∀ wd : Cs, wd = nameN b p B l d i → Same H (upd H4 L (.lst (nmV ((List.range i).map (nameN b p B l d)) ++ [.str (S wd)]))) ∧ upd H4 L (.lst (nmV ((List.range i).map (nameN b p B l d)) ++ [.str (S wd)])) L = some (.lst (nmV ((List.range (i + 1)).map (nameN b p B l d)))) := fun wd ew => by
        refine ⟨fun b2 o e => ?_, ?_⟩
        · rw [upd_ne (ne_of_none e hLH)]
          exact s4 _ _ (s3 _ _ e)
        · rw [upd_same, ew, List.range_succ, List.map_append]
          unfold nmV
          rw [List.map_append] <;> rfl
      have hlen : (nmV ((List.range i).map (nameN b p B l d))).length < sizeLine := sl1000 (by unfold nmV; rw [List.length_map, List.length_map, List.length_range]; omega)
      by_cases hc : rawN b p B l d i ∈ cores
      · refine ifT ?_ ?_
        · show inV (.str (S _)) CORE = true
          rw [inV_core, hBt]
          exact decide_eq_true hc
        refine ⟨_, rfl, _, _, rfl, rfl, ?_, ?_⟩
        · rw [l_x, S_len, S_len, hBt]
          refine sl1000' ?_
          have := raw_small (A := B) N hi5
          rw [List.length_singleton]
          omega
        show Ends.nx _ (List.set _ 7 (some (V.str (_ ++ _)))) _
        rw [l_x, S_app]
        refine ⟨_, rfl, .inl ⟨rfl, _, SqL.of e4⟩, _, rfl, L, _, _, rfl, rfl, e4, hlen, ?_⟩
        obtain ⟨f1, f2⟩ := fin ((rawN b p true l d i) ++ [120]) (by unfold nameN fixN; rw [if_pos hc, hBt])
        exact ⟨_, _, rfl, f1, f2⟩
      · refine ifF ?_ ?_
        · show inV (.str (S _)) CORE = false
          rw [inV_core, hBt]
          exact decide_eq_false hc
        refine ⟨_, rfl, .inl ⟨rfl, _, SqL.of e4⟩, _, rfl, L, _, _, rfl, rfl, e4, hlen, ?_⟩
        obtain ⟨f1, f2⟩ := fin (rawN b p true l d i) (by unfold nameN fixN; rw [if_neg hc, hBt])
        exact ⟨_, _, rfl, f1, f2⟩
  · rintro σ H3 ⟨v6, v7, rfl, s3, e3⟩
    exact ⟨_, rfl, k H3 L _ (names_ok N) s3 hLH e3⟩
end
end Mh
namespace Mh
open PySem PySem.Spec PyProof.Rows L2 TL
/-- a drawn tree: its text, its core, its turns -/
structure TreeV (H : Hp) (q : Addr) (t : LT) : Prop where
  ex : ∃ cv : V, H q = some (.tup [.str (S t.txt), cv, .int (t.turns : Nat)]) ∧ DatAt H cv t.core
theorem TreeV.mono {H H' : Hp} (s : Sn H H') {q : Addr} {t : LT} (h : TreeV H q t) : TreeV H' q t := by
  obtain ⟨cv, h1, h2⟩ := h.ex
  exact ⟨cv, s _ _ h1 (by intro l z; cases z), h2.mono s⟩
theorem numS (n : Int) : Str.ofString (toString n) = S (numC n) := (S_tl _).symm
theorem log_big {n : Int} (h1 : -big < n) (h2 : n < big) : n.natAbs.log2 < 1920 := by
  refine PySem.Flt.log2_lt_of (by decide) ?_
  have hb := big_eq
  have h3 : n.natAbs < 10 ^ 60 := by
    rw [hb] at h1 h2
    omega
  exact Nat.lt_trans h3 (by decide +kernel)
section
variable {P : Program} {w : World} {K : PySem.W.Frag} {mg : Str → Option Value} {base : Heap}
/-! ### _law_leaf -/
theorem sc_lleaf : FnScope ["_law_cell_here", "_law_names_here", "_law_which", "_law_number"] ["_law_cell_here", "_law_names_here"] (defScope s_law_leaf) := ⟨rfl, rfl, rfl, by decide +kernel, rfl, by decide +kernel, by decide +kernel⟩
def spLLeaf (K : PySem.W.Frag) : Sp := fun vs H Q _ => ∃ (c : Int) (L : Addr) (nm : List Cs), vs = [.int c, .ref L] ∧ H L = some (.lst (nmV nm)) ∧ Names nm ∧ ∀ (H' : Hp) (q : Addr) (t : LT), Same H H' → TreeV H' q t → LOk nm 0 t → Q (.ref q) H'
theorem ok_lleaf (T : Txt K mg) : CallF P w K mg base 1 "_law_leaf" ["_law_cell_here", "_law_names_here"] [] (spLLeaf K) := by
  obtain ⟨fd, F⟩ := T.f_law_leaf
  refine ⟨_, fd, [], T.g_law_leaf, F.kp, F.bindsN (ps := ["_law_cell_here", "_law_names_here"]) (fun _ _ _ _ _ _ us hl => match us, hl with | [_, _], _ => rfl), .nil, okN F sc_lleaf (fun vs H Q E h => ?_) fun cdv A outer s H vs Q E hr h => ?_⟩
  · obtain ⟨c, L, nm, rfl, _⟩ := h
    rfl
  obtain ⟨c, L, nm, rfl, hL, N, k⟩ := h
  refine ⟨_, pss_cons (ps_set (i := 2) sc_lleaf.nd rfl (Or.inl rfl) (pe_op op_mod (pe_op op_fdiv (pv 0) pe_int) pe_int))
    (pss_cons (ps_if (pt_cmpR op_eq (pe_op op_mod (pv 0) pe_int) pe_int (nomark _))
      (pss_cons (ps_set (i := 3) sc_lleaf.nd rfl (Or.inl rfl) (pe_op op_mod (pe_op op_fdiv (pv 0) pe_int) (pe_op op_pow pe_int pe_int)))
      (pss_cons (ps_if (pt_cmpR op_eq (pe_op op_mod (pe_op op_fdiv (pv 0) pe_int) pe_int) pe_int (nomark _)) (pss_one (ps_set (i := 3) sc_lleaf.nd rfl (Or.inl rfl) (pe_op op_sub pe_int (pv 3)))) pss_nil)
      (pss_one (ps_ret (pe_tup (pa_cons (pe_callTy call_str_int (by rfl) T.z_str (by decide +kernel) (pa_cons (pv 3) pa_nil)) (pa_cons (pe_tup (pa_cons pe_str (pa_cons (pv 3) pa_nil))) (pa_cons pe_int pa_nil)))))))) pss_nil)
    (pss_cons (ps_if (pt_cmpR op_lt (pv 2) pe_int (nomark _)) (pss_one (ps_ret (pe_tup (pa_cons (pe_ix ix_list (pv 1) (pv 2) (fun _ _ => rfl)) (pa_cons (pe_tup (pa_cons pe_str (pa_cons (pv 2) pa_nil))) (pa_cons pe_int pa_nil)))))) pss_nil)
    (pss_one (ps_ret (pe_tup (pa_cons (pe_ix ix_list (pv 1) (pv 2) (fun _ _ => rfl)) (pa_cons (pe_tup (pa_cons pe_str (pa_cons (pe_ix ix_list (pv 1) (pv 2) (fun _ _ => rfl)) pa_nil))) (pa_cons pe_int pa_nil)))))))), ?_⟩
  refine ⟨_, rfl, _, _, rfl, rfl, ⟨by decide, by decide⟩, _, _, rfl, rfl, (show (0 : Int) < 5 by decide), ?_⟩
  have hw0 : 0 ≤ c / 8 % 5 := Int.emod_nonneg _ (by decide)
  have hw1 : c / 8 % 5 < 5 := Int.emod_lt_of_pos _ (by decide)
  obtain ⟨wh, ewh, hwh⟩ : ∃ wh : Nat, c / 8 % 5 = wh ∧ wh < 5 := ⟨(c / 8 % 5).toNat, by omega, by omega⟩
  show Ends.nx _ (List.set _ 2 (some (V.int (_ % _)))) _
  rw [ewh]
  refine ⟨_, rfl, _, _, rfl, rfl, (show (0 : Int) < 8 by decide), rfl, _, rfl, ?_⟩
  -- the last step, a number's
  have fin : ∀ n : Int, -big < n → n < big → ∀ q1, H q1 = none → ∀ q2, upd H q1 (.tup [.str "num", .int n]) q2 = none → Q (.ref q2) (upd (upd H q1 (.tup [.str "num", .int n])) q2 (.tup [.str (Str.ofString (toString n)), .ref q1, .int 1])) := fun n h1 h2 q1 hq1 q2 hq2 => by
    have s2 := Same.put hq2 (o := .tup [.str (Str.ofString (toString n)), .ref q1, .int 1])
    refine k _ q2 (.num n) ((Same.put hq1).trans s2) ⟨_, ?_, .mk (s2 _ _ upd_same) (.cons .str (.cons .int .nil))⟩ (by unfold LOk; exact ⟨h1, h2⟩)
    rw [upd_same, numS] <;> rfl
  have hb0 : (0 : Int) < 10 ^ 60 := by decide +kernel
  cases h0 : decide (V.int (c % 8) = V.int 0) with
  | true =>
    refine ifT rfl ?_
    refine ⟨_, rfl, _, _, rfl, rfl, ⟨by decide, by decide⟩, _, _, rfl, rfl, ⟨by decide, by decide, by decide⟩, _, _, rfl, rfl, hb0, ?_⟩
    have hn0 : 0 ≤ c / 16 % 10 ^ 60 := Int.emod_nonneg _ (by omega)
    have hn1 : c / 16 % 10 ^ 60 < big := Int.emod_lt_of_pos _ hb0
    show Ends.nx _ (List.set _ 3 (some (V.int (c / 16 % 10 ^ 60)))) _
    generalize c / 16 % 10 ^ 60 = n at hn0 hn1
    have hbig : 0 < big := hb0
    refine ⟨_, rfl, _, _, rfl, rfl, ⟨by decide, by decide⟩, _, _, rfl, rfl, (show (0 : Int) < 2 by decide), rfl, _, rfl, ?_⟩
    cases h2 : decide (V.int (c / 8 % 2) = V.int 1) with
    | true =>
      refine ifT rfl ?_
      refine ⟨_, rfl, _, _, rfl, rfl, ?_⟩
      refine ⟨_, rfl, _, rfl, log_big (by omega) (by omega), _, rfl, (by show 2 ≤ sizeLine; decide), fun q1 hq1 => ⟨by show 3 ≤ sizeLine; decide, fun q2 hq2 => ?_⟩⟩
      exact fin (0 - n) (by omega) (by omega) q1 hq1 q2 hq2
    | false =>
      refine ifF rfl ?_
      refine ⟨_, rfl, _, rfl, log_big (by omega) (by omega), _, rfl, (by show 2 ≤ sizeLine; decide), fun q1 hq1 => ⟨by show 3 ≤ sizeLine; decide, fun q2 hq2 => ?_⟩⟩
      exact fin n (by omega) (by omega) q1 hq1 q2 hq2
  | false =>
    refine ifF rfl ?_
    have hlen := N.len
    have enm : nm[wh]? = some nm[wh] := List.getElem?_eq_getElem (by omega)
    have eat : atI (nmV nm) (wh : Int) = some (.str (S nm[wh])) := atI_nat (by unfold nmV; rw [List.getElem?_map, enm] <;> rfl)
    refine ⟨_, rfl, _, _, rfl, rfl, _, rfl, ?_⟩
    by_cases h2 : wh < 2
    · refine ifT (decide_eq_true (by omega)) ?_
      refine ⟨_, rfl, _, rfl, L, _, _, _, rfl, rfl, SqL.of hL, eat, _, rfl, (by show 2 ≤ sizeLine; decide), fun q1 hq1 => ⟨by show 3 ≤ sizeLine; decide, fun q2 hq2 => ?_⟩⟩
      have s2 := Same.put hq2 (o := .tup [.str (S nm[wh]), .ref q1, .int 1])
      exact k _ q2 (.seen wh nm[wh]) ((Same.put hq1).trans s2) ⟨_, upd_same, .mk (s2 _ _ upd_same) (.cons .str (.cons .int .nil))⟩ (by unfold LOk; exact ⟨h2, enm⟩)
    · refine ifF (decide_eq_false (by omega)) ?_
      refine ⟨_, rfl, _, rfl, L, _, _, _, rfl, rfl, SqL.of hL, eat, _, rfl, _, rfl, L, _, _, _, rfl, rfl, SqL.of hL, eat, (by show 2 ≤ sizeLine; decide), fun q1 hq1 => ⟨by show 3 ≤ sizeLine; decide, fun q2 hq2 => ?_⟩⟩
      have s2 := Same.put hq2 (o := .tup [.str (S nm[wh]), .ref q1, .int 1])
      exact k _ q2 (.free nm[wh]) ((Same.put hq1).trans s2) ⟨_, upd_same, .mk (s2 _ _ upd_same) (.cons .str (.cons .str .nil))⟩ (by unfold LOk; exact ⟨wh, by omega, enm⟩)
end
end Mh
namespace Mh
open PySem PySem.Spec PyProof.Rows L2 TL
/-- the items of a list, told one by one -/
theorem items_eq {f : LT → V} : ∀ {ys : List V} {ts : List LT}, ys.length = ts.length → (∀ (j : Nat) y, ys[j]? = some y → ∀ t, ts[j]? = some t → y = f t) → ys = ts.map f
  | [], [], _, _ => rfl
  | [], _ :: _, h, _ => by cases h
  | _ :: _, [], h, _ => by cases h
  | y :: ys, t :: ts, h, r => by
    have e0 : y = f t := r 0 y rfl t rfl
    have e1 : ys = ts.map f := items_eq (by simpa using h) fun j y' h1 t' h2 => r (j + 1) y' (by simpa using h1) t' (by simpa using h2)
    rw [List.map_cons, e0, e1]
theorem sum_cast : ∀ ts : List LT, (ts.map fun t => ((t.turns : Nat) : Int)).sum = ((LT.turnss ts : Nat) : Int)
  | [] => rfl
  | t :: ts => by
    rw [List.map_cons, List.sum_cons, sum_cast ts]
    show _ = ((t.turns + LT.turnss ts : Nat) : Int)
    omega
theorem sum_len_le : ∀ (ls : List Cs) (m : Nat), (∀ l ∈ ls, l.length ≤ m) → ((ls.map S).map fun x => x.length).sum ≤ ls.length * m
  | [], _, _ => by simp
  | l :: ls, m, h => by
    rw [List.map_cons, List.map_cons, List.sum_cons, S_len, List.length_cons]
    have h1 := h l List.mem_cons_self
    have h2 := sum_len_le ls m fun x hx => h x (List.mem_cons_of_mem _ hx)
    have h3 : (ls.length + 1) * m = ls.length * m + m := by rw [Nat.add_mul, Nat.one_mul]
    omega
theorem snoc (ns : List Int) : ns = [] ∨ ∃ (ms : List Int) (c : Int), ns = ms ++ [c] := by
  rcases List.eq_nil_or_concat ns with h | ⟨ms, c, h⟩
  · exact .inl h
  · exact .inr ⟨ms, c, by rw [h, List.concat_eq_append]⟩
theorem l_opick : ("(pick " : Str) = S [40, 112, 105, 99, 107, 32] := by decide +kernel
theorem l_onow : ("(now " : Str) = S [40, 110, 111, 119, 32] := by decide +kernel
section
variable {P : Program} {w : World} {K : PySem.W.Frag} {mg : Str → Option Value} {base : Heap}
/-! ### _law_tree -/
theorem sc_ltree : FnScope ["_law_left", "_law_deep", "_law_names_here", "_law_cell_here", "_law_kind", "_law_many", "_law_parts", "_law_k", "_law_text", "_law_part", "_law_turns"] ["_law_left", "_law_deep", "_law_names_here"] (defScope s_law_tree) := ⟨rfl, rfl, rfl, by decide +kernel, rfl, by decide +kernel, by decide +kernel⟩
def spLTree (K : PySem.W.Frag) (n : Nat) : Sp := fun vs H Q _ => ∃ (lf L : Addr) (ns : List Int) (nm : List Cs), vs = [.ref lf, .int (n : Nat), .ref L] ∧ n ≤ 4 ∧ H lf = some (.lst (ns.map V.int)) ∧ lf ≠ L ∧ H L = some (.lst (nmV nm)) ∧ Names nm ∧ ns.length ≤ 1000 ∧
  ∀ (H' : Hp) (q : Addr) (t : LT) (ns' : List Int), Fr [lf] H H' → H' lf = some (.lst (ns'.map V.int)) → ns'.length ≤ ns.length → TreeV H' q t → LOk nm n t → Q (.ref q) H'
theorem Sn.fr {H H' : Hp} {lf : Addr} {l : List V} (f : Fr [lf] H H') (h : H lf = some (.lst l)) : Sn H H' := fun b o e hb => f b o e (by
  intro hm
  rw [List.mem_singleton.mp hm, h] at e
  exact hb l (Option.some.inj e).symm)
/-- the two ends that every depth has: nothing left, a leaf -/
theorem tree_zero {H : Hp} {q1 q2 : Addr} {nm : List Cs} {n : Nat} (h2 : upd H q1 (.tup [.str "num", .int 0]) q2 = none) : TreeV (upd (upd H q1 (.tup [.str "num", .int 0])) q2 (.tup [.str "0", .ref q1, .int 1])) q2 (.num 0) ∧ LOk nm n (.num 0) := by
  have s2 := Same.put h2 (o := .tup [.str "0", .ref q1, .int 1])
  refine ⟨⟨_, ?_, .mk (s2 _ _ upd_same) (.cons .str (.cons .int .nil))⟩, by cases n <;> (unfold LOk; exact ⟨by decide, by decide⟩)⟩
  rw [upd_same, l_zero] <;> rfl
theorem ok_ltree0 (T : Txt K mg) : CallF P w K mg base 2 "_law_tree" ["_law_left", "_law_deep", "_law_names_here"] [] (spLTree K 0) := by
  obtain ⟨fd, F⟩ := T.f_law_tree
  have g1 := ok_lleaf (P := P) (w := w) (base := base) T
  refine ⟨_, fd, [], T.g_law_tree, F.kp, F.bindsN (ps := ["_law_left", "_law_deep", "_law_names_here"]) (fun _ _ _ _ _ _ us hl => match us, hl with | [_, _, _], _ => rfl), .nil, okN F sc_ltree (fun vs H Q E h => ?_) fun cdv A outer s H vs Q E hr h => ?_⟩
  · obtain ⟨lf, L, ns, nm, rfl, _⟩ := h
    rfl
  obtain ⟨lf, L, ns, nm, rfl, _, hlf, hne, hL, N, hns, k⟩ := h
  refine ⟨_, pss_cons (ps_if (pt_cmpR (op_eq_nil (hu1 hr)) (pv 0) (pe_lst pa_nil) (nomark _)) (pss_one (ps_ret (pe_tup (pa_cons pe_str (pa_cons (pe_tup (pa_cons pe_str (pa_cons pe_int pa_nil))) (pa_cons pe_int pa_nil)))))) pss_nil)
    (pss_cons (ps_set (i := 3) sc_ltree.nd rfl (Or.inl rfl) (pe_bm0 PySem.F.plainAttrs_list PySem.F.slot_list_pop PySem.F.type_list_pop mt_pop (pv 0)))
    (pss_cons (ps_set (i := 4) sc_ltree.nd rfl (Or.inl rfl) (pe_op op_mod (pv 3) pe_int))
    (pss_cons (ps_if (PW.pt (pw_or (pt_cmpR op_lt (pv 4) pe_int (nomark _)) (pw_or1 (pt_cmpR op_eq (pv 1) pe_int (nomark _))))) (pss_one (ps_ret (pf g1 hr (by rfl) (pa_cons (pv 3) (pa_cons (pv 2) pa_nil))))) pss_nil)
    (pss_cons ps_never (pss_cons ps_never (pss_cons ps_never (pss_cons ps_never (pss_cons ps_never (pss_cons ps_never (pss_one ps_never)))))))))), ?_⟩
  refine ⟨_, rfl, Nat.zero_le _, fun z hz => ?_⟩
  have s0 : Same H (upd H z (.lst [])) := Same.put hz
  have z0 : upd H z (.lst []) z = some (.lst []) := upd_same
  have nlz : lf ≠ z := fun e => by rw [e, hz] at hlf; cases hlf
  refine ⟨lf, z, _, rfl, rfl, SqL.of (s0 _ _ hlf), z0, nlz, ?_⟩
  refine ⟨_, rfl, ?_⟩
  show if (List.isEmpty (ns.map V.int)) = true then _ else _
  rcases snoc ns with rfl | ⟨ms, c, rfl⟩
  · refine ifT rfl ?_
    refine ⟨by show 2 ≤ sizeLine; decide, fun q1 hq1 => ⟨by show 3 ≤ sizeLine; decide, fun q2 hq2 => ?_⟩⟩
    obtain ⟨v, o⟩ := tree_zero (nm := nm) (n := 0) hq2
    have s3 := (s0.trans (Same.put hq1 (o := .tup [.str "num", .int 0]))).trans (Same.put hq2 (o := .tup [.str "0", .ref q1, .int 1]))
    exact k _ q2 _ [] (Fr.of_same s3) (s3 _ _ hlf) (Nat.le_refl _) v o
  · refine ifF (by simp) ?_
    show Ends.nx _ _ (upd H z (.lst []))
    generalize upd H z (.lst []) = H0 at s0 z0
    have hlf0 := s0 _ _ hlf
    refine ⟨_, rfl, .inl ⟨rfl, _, SqL.of hlf0⟩, lf, _, .int c, rfl, rfl, hlf0, by simp, ?_⟩
    have edl : ((ms ++ [c]).map V.int).dropLast = ms.map V.int := by rw [List.map_append]; exact List.dropLast_concat
    show Ends.nx _ _ (upd H0 lf (.lst (((ms ++ [c]).map V.int).dropLast)))
    rw [edl]
    have f1 : Fr [lf] H (upd H0 lf (.lst (ms.map V.int))) := (Fr.of_same s0).trans (Fr.put (.inl (by simp)))
    have l1 : upd H0 lf (.lst (ms.map V.int)) lf = some (.lst (ms.map V.int)) := upd_same
    show Ends.nx _ _ (upd H0 lf (.lst (ms.map V.int)))
    generalize upd H0 lf (.lst (ms.map V.int)) = H1 at f1 l1
    have hL1 := f1 _ _ hL (by simpa using hne.symm)
    have leaf : spLLeaf K [.int c, .ref L] H1 Q E0 := ⟨c, L, nm, rfl, hL1, N, fun H' q t s2 v o => k H' q t ms (f1.trans (Fr.of_same s2)) (s2 _ _ l1) (by simp) v o⟩
    refine ⟨_, rfl, _, _, rfl, rfl, (show (0 : Int) < 8 by decide), ?_⟩
    refine ⟨_, rfl, _, _, rfl, rfl, _, rfl, ?_⟩
    cases h4 : decide (c % 8 < 4) with
    | true =>
      refine ifT rfl ?_
      refine ifT rfl ?_
      exact ⟨_, rfl, _, rfl, leaf⟩
    | false =>
      refine ifF rfl ?_
      refine ⟨_, rfl, rfl, _, rfl, ?_⟩
      refine ifT rfl ?_
      exact ⟨_, rfl, _, rfl, leaf⟩
end
end Mh
namespace Mh
open PySem PySem.Spec PyProof.Rows L2 TL
section
variable {P : Program} {w : World} {K : PySem.W.Frag} {mg : Str → Option Value} {base : Heap}
/-- kind and number of parts, by the cell -/
theorem kind_of {c : Int} (h : ¬ c % 8 < 4) : ∃ (kd : Kd) (mz : Nat), atI [V.int (1 + c / 8 % 4), V.int (1 + c / 8 % 4), V.int 3, V.int 1] (c % 8 - 4) = some (.int (mz : Nat)) ∧ kd.okLen mz ∧
    decide (V.int (c % 8) = V.int 6) = decide (kd = .pick) ∧ decide (V.int (c % 8) = V.int 7) = decide (kd = .now) := by
  have h0 : 0 ≤ c % 8 := Int.emod_nonneg _ (by decide)
  have h1 : c % 8 < 8 := Int.emod_lt_of_pos _ (by decide)
  have m0 : 0 ≤ c / 8 % 4 := Int.emod_nonneg _ (by decide)
  have m1 : c / 8 % 4 < 4 := Int.emod_lt_of_pos _ (by decide)
  obtain ⟨mz, hmz, hm4⟩ : ∃ mz : Nat, 1 + c / 8 % 4 = mz ∧ 1 ≤ mz ∧ mz ≤ 4 := ⟨(1 + c / 8 % 4).toNat, by omega, by omega, by omega⟩
  rcases (by omega : c % 8 = 4 ∨ c % 8 = 5 ∨ c % 8 = 6 ∨ c % 8 = 7) with e | e | e | e
  · rw [e, hmz]
    exact ⟨.call, mz, atI_nat (j := 0) rfl, hm4, by decide +kernel, by decide +kernel⟩
  · rw [e, hmz]
    exact ⟨.call, mz, atI_nat (j := 1) rfl, hm4, by decide +kernel, by decide +kernel⟩
  · rw [e, hmz]
    exact ⟨.pick, 3, atI_nat (j := 2) rfl, rfl, by decide +kernel, by decide +kernel⟩
  · rw [e, hmz]
    exact ⟨.now, 1, atI_nat (j := 3) rfl, rfl, by decide +kernel, by decide +kernel⟩
theorem ok_ltreeS (T : Txt K mg) (n : Nat) (ih : CallF P w K mg base (n + 2) "_law_tree" ["_law_left", "_law_deep", "_law_names_here"] [] (spLTree K n)) : CallF P w K mg base (n + 3) "_law_tree" ["_law_left", "_law_deep", "_law_names_here"] [] (spLTree K (n + 1)) := by
  obtain ⟨fd, F⟩ := T.f_law_tree
  have g1 := ok_lleaf (P := P) (w := w) (base := base) T
  refine ⟨_, fd, [], T.g_law_tree, F.kp, F.bindsN (ps := ["_law_left", "_law_deep", "_law_names_here"]) (fun _ _ _ _ _ _ us hl => match us, hl with | [_, _, _], _ => rfl), .nil, okN F sc_ltree (fun vs H Q E h => ?_) fun cdv A outer s H vs Q E hr h => ?_⟩
  · obtain ⟨lf, L, ns, nm, rfl, _⟩ := h
    rfl
  obtain ⟨lf, L, ns, nm, rfl, hn4, hlf, hne, hL, N, hns, k⟩ := h
  refine ⟨_, pss_cons (ps_if (pt_cmpR (op_eq_nil (hu1 hr)) (pv 0) (pe_lst pa_nil) (nomark _)) (pss_one (ps_ret (pe_tup (pa_cons pe_str (pa_cons (pe_tup (pa_cons pe_str (pa_cons pe_int pa_nil))) (pa_cons pe_int pa_nil)))))) pss_nil)
    (pss_cons (ps_set (i := 3) sc_ltree.nd rfl (Or.inl rfl) (pe_bm0 PySem.F.plainAttrs_list PySem.F.slot_list_pop PySem.F.type_list_pop mt_pop (pv 0)))
    (pss_cons (ps_set (i := 4) sc_ltree.nd rfl (Or.inl rfl) (pe_op op_mod (pv 3) pe_int))
    (pss_cons (ps_if (PW.pt (pw_or (pt_cmpR op_lt (pv 4) pe_int (nomark _)) (pw_or1 (pt_cmpR op_eq (pv 1) pe_int (nomark _))))) (pss_one (ps_ret (pf g1 (hr.mono (by omega)) (by rfl) (pa_cons (pv 3) (pa_cons (pv 2) pa_nil))))) pss_nil)
    (pss_cons (ps_set (i := 5) sc_ltree.nd rfl (Or.inl rfl) (pe_ix ix_list (pe_lst (pa_cons (pe_op op_add pe_int (pe_op op_mod (pe_op op_fdiv (pv 3) pe_int) pe_int)) (pa_cons (pe_op op_add pe_int (pe_op op_mod (pe_op op_fdiv (pv 3) pe_int) pe_int)) (pa_cons pe_int (pa_cons pe_int pa_nil))))) (pe_op op_sub (pv 4) pe_int) (fun _ _ => rfl)))
    (pss_cons (ps_setLc (i := 6) (own := [("_law_k", 7)]) (g := gName 7) (tt := tYes) (te := tCall (spLTree K n) [] E0 (tCons (tVar 0) (tCons (tOp (rI0 fun i j => .int (i - j)) (tVar 1) (tC (.int 1))) (tCons (tVar 2) tNil)))) rfl sc_ltree.nd rfl rfl (sw_true rfl rfl rfl (by decide +kernel)) (pi_range1 (by rfl) T.z_range (pa_cons (pv 5) pa_nil))
      (blkOk_by (own := [("_law_k", 7)]) (N := ["_law_left", "_law_deep", "_law_names_here", "_law_cell_here", "_law_kind", "_law_many", "_law_parts", "_law_k", "_law_text", "_law_part", "_law_turns"]) (sc := defScope s_law_tree) (by decide +kernel)) (fun _ _ _ _ _ => pg_name (i := 7) sc_ltree.nd rfl (Or.inl rfl)) (fun _ _ _ _ _ => pts_nil)
      (fun _ _ _ _ _ => pf ih hr (by rfl) (pa_cons (pv 0) (pa_cons (pe_op op_sub (pv 1) pe_int) (pa_cons (pv 2) pa_nil)))))
    (pss_cons (ps_set (i := 8) sc_ltree.nd rfl (Or.inl rfl) (pe_join pe_str (pe_lc (own := [("_law_part", 9)]) (g := gName 9) (tt := tYes) (te := tOp (rIxT K) (tVar 9) (tC (.int 0))) rfl sc_ltree.nd (pi_list (pv 6))
      (blkOk_by (own := [("_law_part", 9)]) (N := ["_law_left", "_law_deep", "_law_names_here", "_law_cell_here", "_law_kind", "_law_many", "_law_parts", "_law_k", "_law_text", "_law_part", "_law_turns"]) (sc := defScope s_law_tree) (by decide +kernel)) (fun _ _ _ _ _ => pg_name (i := 9) sc_ltree.nd rfl (Or.inl rfl)) (fun _ _ _ _ _ => pts_nil)
      (fun _ _ _ _ _ => pe_ix ix_tup (pv 9) pe_int (fun _ _ => rfl)))))
    (pss_cons (ps_set (i := 10) sc_ltree.nd rfl (Or.inl rfl) (pe_op op_add pe_int (pe_callB (cr_sum rfl) (by rfl) T.z_sum (by decide +kernel) (pa_cons (pe_lc (own := [("_law_part", 9)]) (g := gName 9) (tt := tYes) (te := tOp (rIxT K) (tVar 9) (tC (.int 2))) rfl sc_ltree.nd (pi_list (pv 6))
      (blkOk_by (own := [("_law_part", 9)]) (N := ["_law_left", "_law_deep", "_law_names_here", "_law_cell_here", "_law_kind", "_law_many", "_law_parts", "_law_k", "_law_text", "_law_part", "_law_turns"]) (sc := defScope s_law_tree) (by decide +kernel)) (fun _ _ _ _ _ => pg_name (i := 9) sc_ltree.nd rfl (Or.inl rfl)) (fun _ _ _ _ _ => pts_nil)
      (fun _ _ _ _ _ => pe_ix ix_tup (pv 9) pe_int (fun _ _ => rfl))) pa_nil))))
    (pss_cons (ps_if (pt_cmpR op_eq (pv 4) pe_int (nomark _)) (pss_one (ps_ret (pe_tup (pa_cons (pe_op op_add_str (pe_op op_add_str pe_str (pv 8)) pe_str) (pa_cons (pe_tup (pa_cons pe_str
        (pa_cons (pe_ix ix_tup (pe_ix ix_list (pv 6) pe_int (fun _ _ => rfl)) pe_int (fun _ _ => rfl)) (pa_cons (pe_ix ix_tup (pe_ix ix_list (pv 6) pe_int (fun _ _ => rfl)) pe_int (fun _ _ => rfl)) (pa_cons (pe_ix ix_tup (pe_ix ix_list (pv 6) pe_int (fun _ _ => rfl)) pe_int (fun _ _ => rfl)) pa_nil))))) (pa_cons (pv 10) pa_nil)))))) pss_nil)
    (pss_cons (ps_if (pt_cmpR op_eq (pv 4) pe_int (nomark _)) (pss_one (ps_ret (pe_tup (pa_cons (pe_op op_add_str (pe_op op_add_str pe_str (pv 8)) pe_str) (pa_cons (pe_tup (pa_cons pe_str
        (pa_cons (pe_ix ix_tup (pe_ix ix_list (pv 6) pe_int (fun _ _ => rfl)) pe_int (fun _ _ => rfl)) pa_nil))) (pa_cons (pv 10) pa_nil)))))) pss_nil)
    (pss_one (ps_ret (pe_tup (pa_cons (pe_op op_add_str (pe_op op_add_str pe_str (pv 8)) pe_str) (pa_cons (pe_tup (pa_cons pe_str (pa_cons (pe_ix ix_tup (pe_ix ix_list (pv 6) pe_int (fun _ _ => rfl)) pe_int (fun _ _ => rfl))
        (pa_cons (pe_callTy call_tuple_of (by rfl) T.z_tuple boot_tuple (pa_cons (pe_lc (own := [("_law_part", 9)]) (g := gName 9) (tt := tYes) (te := tOp (rIxT K) (tVar 9) (tC (.int 1))) rfl sc_ltree.nd (pi_list (pe_slice sl_list (pv 6) (po_some pe_int) po_none))
      (blkOk_by (own := [("_law_part", 9)]) (N := ["_law_left", "_law_deep", "_law_names_here", "_law_cell_here", "_law_kind", "_law_many", "_law_parts", "_law_k", "_law_text", "_law_part", "_law_turns"]) (sc := defScope s_law_tree) (by decide +kernel)) (fun _ _ _ _ _ => pg_name (i := 9) sc_ltree.nd rfl (Or.inl rfl)) (fun _ _ _ _ _ => pts_nil)
      (fun _ _ _ _ _ => pe_ix ix_tup (pv 9) pe_int (fun _ _ => rfl))) pa_nil)) pa_nil)))) (pa_cons (pv 10) pa_nil))))))))))))))), ?_⟩
  refine ⟨_, rfl, Nat.zero_le _, fun z hz => ?_⟩
  have s0 : Same H (upd H z (.lst [])) := Same.put hz
  have z0 : upd H z (.lst []) z = some (.lst []) := upd_same
  have nlz : lf ≠ z := fun e => by rw [e, hz] at hlf; cases hlf
  refine ⟨lf, z, _, rfl, rfl, SqL.of (s0 _ _ hlf), z0, nlz, ?_⟩
  refine ⟨_, rfl, ?_⟩
  show if (List.isEmpty (ns.map V.int)) = true then _ else _
  rcases snoc ns with rfl | ⟨ms, c, rfl⟩
  · refine ifT rfl ?_
    refine ⟨by show 2 ≤ sizeLine; decide, fun q1 hq1 => ⟨by show 3 ≤ sizeLine; decide, fun q2 hq2 => ?_⟩⟩
    obtain ⟨v, o⟩ := tree_zero (nm := nm) (n := n + 1) hq2
    have s3 := (s0.trans (Same.put hq1 (o := .tup [.str "num", .int 0]))).trans (Same.put hq2 (o := .tup [.str "0", .ref q1, .int 1]))
    exact k _ q2 _ [] (Fr.of_same s3) (s3 _ _ hlf) (Nat.le_refl _) v o
  refine ifF (by simp) ?_
  show Ends.nx _ _ (upd H z (.lst []))
  generalize upd H z (.lst []) = H0 at s0 z0
  have hlf0 := s0 _ _ hlf
  refine ⟨_, rfl, .inl ⟨rfl, _, SqL.of hlf0⟩, lf, _, .int c, rfl, rfl, hlf0, by simp, ?_⟩
  have edl : ((ms ++ [c]).map V.int).dropLast = ms.map V.int := by rw [List.map_append]; exact List.dropLast_concat
  show Ends.nx _ _ (upd H0 lf (.lst (((ms ++ [c]).map V.int).dropLast)))
  rw [edl]
  have f1 : Fr [lf] H (upd H0 lf (.lst (ms.map V.int))) := (Fr.of_same s0).trans (Fr.put (.inl (by simp)))
  have l1 : upd H0 lf (.lst (ms.map V.int)) lf = some (.lst (ms.map V.int)) := upd_same
  show Ends.nx _ _ (upd H0 lf (.lst (ms.map V.int)))
  generalize upd H0 lf (.lst (ms.map V.int)) = H1 at f1 l1
  have hL1 := f1 _ _ hL (by simpa using hne.symm)
  have hms : ms.length + 1 ≤ 1000 := by rw [List.length_append] at hns; exact hns
  refine ⟨_, rfl, _, _, rfl, rfl, (show (0 : Int) < 8 by decide), ?_⟩
  refine ⟨_, rfl, _, _, rfl, rfl, _, rfl, ?_⟩
  by_cases h4 : c % 8 < 4
  · refine ifT (decide_eq_true h4) ?_
    refine ifT rfl ?_
    exact ⟨_, rfl, _, rfl, c, L, nm, rfl, hL1, N, fun H' q t s2 v o => k H' q t ms (f1.trans (Fr.of_same s2)) (s2 _ _ l1) (by simp) v (o.mono (Nat.zero_le _))⟩
  refine ifF (decide_eq_false h4) ?_
  have en : decide (V.int ((n + 1 : Nat) : Int) = V.int 0) = false := decide_eq_false fun e => by
    injection e with e
    omega
  refine ⟨_, rfl, rfl, _, rfl, ?_⟩
  refine ifF en ?_
  obtain ⟨kd, mz, hat, hkl, h6, h7⟩ := kind_of h4
  have hm4 := hkl.pos
  refine ⟨_, rfl, _, _, rfl, rfl, ⟨by decide, by decide⟩, _, _, rfl, rfl, (show (0 : Int) < 4 by decide), _, _, rfl, rfl, _, rfl, _, _, rfl, rfl, ⟨by decide, by decide⟩, _, _, rfl, rfl, (show (0 : Int) < 4 by decide), _, _, rfl, rfl, (by show 4 ≤ sizeLine; decide), fun z2 hz2 => ?_⟩
  have s2 : Same H1 (upd H1 z2 (.lst [V.int (1 + c / 8 % 4), V.int (1 + c / 8 % 4), V.int 3, V.int 1])) := Same.put hz2
  have z2' : upd H1 z2 (.lst [V.int (1 + c / 8 % 4), V.int (1 + c / 8 % 4), V.int 3, V.int 1]) z2 = some (.lst [V.int (1 + c / 8 % 4), V.int (1 + c / 8 % 4), V.int 3, V.int 1]) := upd_same
  generalize upd H1 z2 (.lst [V.int (1 + c / 8 % 4), V.int (1 + c / 8 % 4), V.int 3, V.int 1]) = H2 at s2 z2'
  have l2 := s2 _ _ l1
  have hL2 := s2 _ _ hL1
  have f2 := f1.trans (Fr.of_same s2)
  refine ⟨_, rfl, _, _, rfl, rfl, z2, _, _, _, rfl, rfl, SqL.of z2', hat, ?_⟩
  refine ⟨_, rfl, _, rfl, by omega, by omega, fun D hD => ?_⟩
  have nD : D ≠ lf := fun e => by rw [e, l2] at hD; cases hD
  refine lc_range (fun i H' => ∃ (ns' : List Int) (qs : List Addr) (ts : List LT), Fr [lf] H2 H' ∧ H' lf = some (.lst (ns'.map V.int)) ∧ ns'.length ≤ ms.length ∧ H' D = some (.lst (qs.map V.ref)) ∧ qs.length = i ∧ All2 (TreeV H') qs ts ∧ ∀ t ∈ ts, LOk nm n t)
    ⟨ms, [], [], Fr.put (.inr hD), (upd_ne nD.symm).trans l2, Nat.le_refl _, upd_same, rfl, .nil, fun t ht => by cases ht⟩ ?_ ?_
  · rintro i H' hi ⟨ns', qs, ts, f3, e1, e2, e3, e4, e5, e6⟩
    refine ⟨rfl, yes ?_⟩
    have ek : ((n + 1 : Nat) : Int) - 1 = (n : Int) := by omega
    refine ⟨_, rfl, _, rfl, _, _, rfl, rfl, _, rfl, lf, L, ns', nm, ?_, by omega, e1, hne, f3 _ _ hL2 (by simpa using hne.symm), N, by omega, fun H4 q t ns4 f4 g1 g2 g3 g4 => ?_⟩
    · show [V.ref lf, V.int (((n + 1 : Nat) : Int) - 1), V.ref L] = _
      rw [ek]
    have hD4 := f4 _ _ e3 (by simpa using nD)
    have sn : Sn H' (upd H4 D (.lst (qs.map V.ref ++ [.ref q]))) := (Sn.fr f4 e1).trans (Sn.put hD4)
    refine ⟨_, hD4, sl1000 (by rw [List.length_map]; omega), ns4, qs ++ [q], ts ++ [t], ?_, (upd_ne nD.symm).trans g1, by omega, ?_, by rw [List.length_append, e4] <;> rfl, ?_, ?_⟩
    · intro b o e hb
      rw [upd_ne (ne_of_none e hD)]
      exact f4 _ _ (f3 _ _ e hb) hb
    · rw [upd_same, List.map_append] <;> rfl
    · have := (e5.imp fun x y h => h.mono sn)
      have hlen := e5.len
      refine All2.of (by rw [List.length_append, List.length_append, hlen] <;> rfl) fun j x y h1 h2 => ?_
      by_cases hj : j < qs.length
      · rw [List.getElem?_append_left hj] at h1
        rw [List.getElem?_append_left (by omega)] at h2
        exact this.get j x y h1 h2
      · have hj' := (List.getElem?_eq_some_iff.mp h1).1
        rw [List.length_append, List.length_singleton] at hj'
        have ej : j = qs.length := by omega
        subst ej
        rw [List.getElem?_append_right (Nat.le_refl _), Nat.sub_self] at h1
        rw [List.getElem?_append_right (by omega), hlen, Nat.sub_self] at h2
        rw [← Option.some.inj h1, ← Option.some.inj h2]
        exact g3.mono (Sn.put hD4)
    · intro t' ht'
      rcases List.mem_append.mp ht' with h | h
      · exact e6 t' h
      · rw [List.mem_singleton.mp h]
        exact g4
  rintro H3 ⟨ns', qs, ts, f3, e1, e2, e3, e4, e5, e6⟩
  have hql := e5.len
  -- the text
  refine ⟨⟨_, rfl⟩, _, rfl, D, rfl, ⟨_, SqL.of e3⟩, fun D2 hD2 => ?_⟩
  refine lc_map (fun j y => ∀ t, ts[j]? = some t → y = V.str (S t.txt)) (SqL.of e3) (by rw [List.length_map]; omega) hD2 (fun _ => rfl) ?_ ?_
  · intro j x acc Q' hj k'
    rw [List.getElem?_map] at hj
    obtain ⟨q, hq, ex⟩ := Option.map_eq_some_iff.mp hj
    subst ex
    have hjl := (List.getElem?_eq_some_iff.mp hq).1
    have ht : ts[j]? = some ts[j] := List.getElem?_eq_getElem (by omega)
    obtain ⟨cv, h1, _⟩ := (e5.get j q _ hq ht).ex
    exact ⟨_, rfl, q, _, 0, _, rfl, rfl, SqT.of ((Same.put hD2) _ _ h1), atI_nat (j := 0) rfl, k' _ fun t ht' => by rw [ht] at ht'; rw [← Option.some.inj ht']⟩
  intro ys hyl hy
  have ey : ys = ((LT.txts ts).map S).map V.str := by
    rw [items_eq (f := fun t => V.str (S t.txt)) (by rw [hyl, List.length_map]; omega) hy, txts_map, List.map_map, List.map_map] <;> rfl
  have s4 : Same H3 (upd H3 D2 (.lst ys)) := Same.put hD2
  have d4 : upd H3 D2 (.lst ys) D2 = some (.lst (((LT.txts ts).map S).map V.str)) := by rw [upd_same, ey]
  generalize upd H3 D2 (.lst ys) = H4 at s4 d4
  have htz : tsz 4 = 26790 := by decide
  have htl : ∀ l ∈ LT.txts ts, l.length ≤ 26790 := fun l hl => by
    rw [txts_map] at hl
    obtain ⟨t, ht, e⟩ := List.mem_map.mp hl
    rw [← e, ← htz]
    exact txt_len N ((e6 t ht).mono (by omega))
  have htsl : (LT.txts ts).length = ts.length := by rw [txts_map, List.length_map]
  refine ⟨_, D2, (LT.txts ts).map S, rfl, rfl, .inl (SqL.of d4), ?_, ?_⟩
  · have := sum_len_le (LT.txts ts) 26790 htl
    have h5 : (LT.txts ts).length * 26790 ≤ 4 * 26790 := Nat.mul_le_mul_right _ (by omega)
    rw [l_sp, S_len, List.length_map, List.length_singleton]
    omega
  rw [l_sp, join_S]
  have hJ : (joinL [32] (LT.txts ts)).length ≤ 200000 := by
    have h1 := joinL_len (LT.txts ts) 26790 htl
    have h5 : (LT.txts ts).length * (26790 + 1) ≤ 4 * (26790 + 1) := Nat.mul_le_mul_right _ (by omega)
    omega
  -- the turns
  have e34 := s4 _ _ e3
  refine ⟨_, rfl, D, rfl, ⟨_, SqL.of e34⟩, fun D3 hD3 => ?_⟩
  refine lc_map (fun j y => ∀ t, ts[j]? = some t → y = V.int (t.turns : Nat)) (SqL.of e34) (by rw [List.length_map]; omega) hD3 (fun _ => rfl) ?_ ?_
  · intro j x acc Q' hj k'
    rw [List.getElem?_map] at hj
    obtain ⟨q, hq, ex⟩ := Option.map_eq_some_iff.mp hj
    subst ex
    have hjl := (List.getElem?_eq_some_iff.mp hq).1
    have ht : ts[j]? = some ts[j] := List.getElem?_eq_getElem (by omega)
    obtain ⟨cv, h1, _⟩ := (e5.get j q _ hq ht).ex
    exact ⟨_, rfl, q, _, 2, _, rfl, rfl, SqT.of ((s4.trans (Same.put hD3)) _ _ h1), atI_nat (j := 2) rfl, k' _ fun t ht' => by rw [ht] at ht'; rw [← Option.some.inj ht']⟩
  intro us hul hu
  have eu : us = (ts.map fun t => ((t.turns : Nat) : Int)).map V.int := by
    rw [items_eq (f := fun t => V.int (t.turns : Nat)) (by rw [hul, List.length_map]; omega) hu, List.map_map] <;> rfl
  have s5 : Same H3 (upd H4 D3 (.lst us)) := s4.trans (Same.put hD3)
  have d5 : upd H4 D3 (.lst us) D3 = some (.lst ((ts.map fun t => ((t.turns : Nat) : Int)).map V.int)) := by rw [upd_same, eu]
  generalize upd H4 D3 (.lst us) = H5 at s5 d5
  refine ⟨D3, _, rfl, SqL.of d5, _, _, rfl, rfl, ?_⟩
  have et : (1 : Int) + (ts.map fun t => ((t.turns : Nat) : Int)).sum = (((LT.node kd ts).turns : Nat) : Int) := by
    rw [sum_cast]
    show _ = ((1 + LT.turnss ts : Nat) : Int)
    omega
  show Ends.nx _ (List.set _ 10 (some (V.int (1 + _)))) _
  rw [et]
  have hD5 := s5 _ _ e3
  have fin : ∀ (H6 : Hp) (p2 : Addr) (tx : Str) (cv : V), Same H5 H6 → H6 p2 = some (.tup [.str tx, cv, .int ((LT.node kd ts).turns : Nat)]) → tx = S (LT.node kd ts).txt → DatAt H6 cv (LT.node kd ts).core → Q (.ref p2) H6 := fun H6 p2 tx cv s6 h1 h2 h3 => by
    subst h2
    refine k H6 p2 (.node kd ts) ns' ((f2.trans f3).trans (Fr.of_same (s5.trans s6))) (s6 _ _ (s5 _ _ e1)) (by rw [List.length_append]; omega) ⟨cv, h1, h3⟩ ?_
    unfold LOk
    refine ⟨?_, e6⟩
    rw [← hql, e4]
    exact hkl
  refine ⟨_, rfl, rfl, _, rfl, ?_⟩
  have tsz_ok : ts.length = mz := by omega
  cases kd with
  | pick =>
    refine ifT h6 ?_
    have hm3 : mz = 3 := hkl
    subst hm3
    match qs, ts, e5, e4, tsz_ok, fin, hD5, hJ with
    | [q0, q1, q2], [t0, t1, t2], .cons v0 (.cons v1 (.cons v2 .nil)), _, _, fin, hD5, hJ =>
      obtain ⟨c0, a0, b0⟩ := v0.ex
      obtain ⟨c1, a1, b1⟩ := v1.ex
      obtain ⟨c2, a2, b2⟩ := v2.ex
      refine ⟨_, rfl, _, _, rfl, rfl, ?_, _, _, rfl, rfl, ?_, _, rfl, D, _, 0, _, rfl, rfl, SqL.of hD5, atI_nat (j := 0) rfl, q0, _, 1, _, rfl, rfl, SqT.of (s5 _ _ a0), atI_nat (j := 1) rfl, _, rfl, D, _, 1, _, rfl, rfl, SqL.of hD5, atI_nat (j := 1) rfl, q1, _, 1, _, rfl, rfl, SqT.of (s5 _ _ a1), atI_nat (j := 1) rfl,
        _, rfl, D, _, 2, _, rfl, rfl, SqL.of hD5, atI_nat (j := 2) rfl, q2, _, 1, _, rfl, rfl, SqT.of (s5 _ _ a2), atI_nat (j := 1) rfl, (by show 4 ≤ sizeLine; decide), fun p1 hp1 => ⟨_, rfl, by show 3 ≤ sizeLine; decide, fun p2 hp2 => ?_⟩⟩
      · rw [l_opick, S_len, S_len]
        exact slz (by show 6 + _ ≤ _; omega)
      · rw [l_opick, l_cls, S_app, S_len, S_len, List.length_append]
        exact slz (by show 6 + _ + 1 ≤ _; omega)
      have t6 := Same.put hp1 (o := .tup [.str "pick", c0, c1, c2])
      have t7 := Same.put hp2 (o := .tup [.str ("(pick " ++ S (joinL [32] (LT.txts [t0, t1, t2])) ++ ")"), .ref p1, .int ((LT.node .pick [t0, t1, t2]).turns : Nat)])
      have sn := (Sn.of (s5.trans (t6.trans t7)))
      refine fin _ p2 _ _ (t6.trans t7) upd_same ?_ (.mk (t7 _ _ upd_same) (.cons .str (.cons (b0.mono sn) (.cons (b1.mono sn) (.cons (b2.mono sn) .nil)))))
      rw [l_opick, l_cls, S_app, S_app] <;> rfl
  | now =>
    refine ifF h6 ?_
    refine ⟨_, rfl, rfl, _, rfl, ?_⟩
    refine ifT h7 ?_
    have hm1 : mz = 1 := hkl
    subst hm1
    match qs, ts, e5, e4, tsz_ok, fin, hD5, hJ with
    | [q0], [t0], .cons v0 .nil, _, _, fin, hD5, hJ =>
      obtain ⟨c0, a0, b0⟩ := v0.ex
      refine ⟨_, rfl, _, _, rfl, rfl, ?_, _, _, rfl, rfl, ?_, _, rfl, D, _, 0, _, rfl, rfl, SqL.of hD5, atI_nat (j := 0) rfl, q0, _, 1, _, rfl, rfl, SqT.of (s5 _ _ a0), atI_nat (j := 1) rfl, (by show 2 ≤ sizeLine; decide), fun p1 hp1 => ⟨_, rfl, by show 3 ≤ sizeLine; decide, fun p2 hp2 => ?_⟩⟩
      · rw [l_onow, S_len, S_len]
        exact slz (by show 5 + _ ≤ _; omega)
      · rw [l_onow, l_cls, S_app, S_len, S_len, List.length_append]
        exact slz (by show 5 + _ + 1 ≤ _; omega)
      have t6 := Same.put hp1 (o := .tup [.str "now", c0])
      have t7 := Same.put hp2 (o := .tup [.str ("(now " ++ S (joinL [32] (LT.txts [t0])) ++ ")"), .ref p1, .int ((LT.node .now [t0]).turns : Nat)])
      have sn := (Sn.of (s5.trans (t6.trans t7)))
      refine fin _ p2 _ _ (t6.trans t7) upd_same ?_ (.mk (t7 _ _ upd_same) (.cons .str (.cons (b0.mono sn) .nil)))
      rw [l_onow, l_cls, S_app, S_app] <;> rfl
  | call =>
    refine ifF h6 ?_
    refine ⟨_, rfl, rfl, _, rfl, ?_⟩
    refine ifF h7 ?_
    match qs, ts, e5, e4, tsz_ok, fin, hD5, hJ with
    | [], [], .nil, e4, _, _, _, _ =>
      rw [List.length_nil] at e4
      omega
    | q0 :: qr, t0 :: tr, .cons v0 vr, e4, tsz_ok, fin, hD5, hJ =>
      obtain ⟨c0, a0, b0⟩ := v0.ex
      rw [List.length_cons] at e4 tsz_ok
      refine ⟨_, rfl, _, _, rfl, rfl, ?_, _, _, rfl, rfl, ?_, _, rfl, D, _, 0, _, rfl, rfl, SqL.of hD5, atI_nat (j := 0) rfl, q0, _, 1, _, rfl, rfl, SqT.of (s5 _ _ a0), atI_nat (j := 1) rfl, _, rfl, 1, rfl, D, _, rfl, SqL.of hD5, fun p3 hp3 => ⟨p3, rfl, ⟨_, SqL.of upd_same⟩, fun D4 hD4 => ?_⟩⟩
      · rw [l_opn, S_len, S_len]
        exact slz (by show 1 + _ ≤ _; omega)
      · rw [l_opn, l_cls, S_app, S_len, S_len, List.length_append]
        exact slz (by show 1 + _ + 1 ≤ _; omega)
      have t6 : Same H5 (upd H5 p3 (.lst (cutV ((q0 :: qr).map V.ref) (some 1) none))) := Same.put hp3
      have p6 : upd H5 p3 (.lst (cutV ((q0 :: qr).map V.ref) (some 1) none)) p3 = some (.lst (qr.map V.ref)) := by
        rw [upd_same]
        exact congrArg (fun z => some (HO.lst z)) (cut_tail (.ref q0) (qr.map V.ref))
      have ecut : cutV ((q0 :: qr).map V.ref) (some 1) none = qr.map V.ref := cut_tail (.ref q0) (qr.map V.ref)
      generalize upd H5 p3 (.lst (cutV ((q0 :: qr).map V.ref) (some 1) none)) = H6 at t6 p6 hD4
      have s6 := s5.trans t6
      refine lc_map (fun j y => ∀ t, tr[j]? = some t → DatAt H6 y t.core) (SqL.of p6) (by rw [List.length_map]; omega) hD4 (fun _ => rfl) ?_ ?_
      · intro j x acc Q' hj k'
        rw [List.getElem?_map] at hj
        obtain ⟨q, hq, ex⟩ := Option.map_eq_some_iff.mp hj
        subst ex
        have hjl := (List.getElem?_eq_some_iff.mp hq).1
        have hqr := vr.len
        have ht : tr[j]? = some tr[j] := List.getElem?_eq_getElem (by omega)
        obtain ⟨cv, h1, h2⟩ := (vr.get j q _ hq ht).ex
        exact ⟨_, rfl, q, _, 1, _, rfl, rfl, SqT.of ((s6.trans (Same.put hD4)) _ _ h1), atI_nat (j := 1) rfl, k' _ fun t ht' => by rw [ht] at ht'; rw [← Option.some.inj ht']; exact h2.mono (Sn.of s6)⟩
      intro zs hzl hz0
      have hqr := vr.len
      have za : All2 (DatAt H6) zs (LT.cors tr) := by
        rw [List.length_map] at hzl
        refine All2.of (by rw [cors_map, List.length_map]; omega) fun j v dd h1 h2 => ?_
        rw [cors_map, List.getElem?_map] at h2
        obtain ⟨p, hp, ed⟩ := Option.map_eq_some_iff.mp h2
        rw [← ed]
        exact hz0 j v h1 p hp
      have t7 : Same H6 (upd H6 D4 (.lst zs)) := Same.put hD4
      have d7 : upd H6 D4 (.lst zs) D4 = some (.lst zs) := upd_same
      generalize upd H6 D4 (.lst zs) = H7 at t7 d7
      refine ⟨D4, _, rfl, .inl ⟨SqL.of d7, fun p4 hp4 => ⟨by show 3 ≤ sizeLine; decide, fun p1 hp1 => ⟨_, rfl, by show 3 ≤ sizeLine; decide, fun p2 hp2 => ?_⟩⟩⟩⟩
      have t8 := Same.put hp4 (o := .tup zs)
      have t9 := Same.put hp1 (o := .tup [.str "call", c0, .ref p4])
      have t10 := Same.put hp2 (o := .tup [.str ("(" ++ S (joinL [32] (LT.txts (t0 :: tr))) ++ ")"), .ref p1, .int ((LT.node .call (t0 :: tr)).turns : Nat)])
      have t9' := t9.trans t10
      have t8' := t8.trans t9'
      refine fin _ p2 _ _ ((t6.trans t7).trans t8') upd_same ?_ (.mk (t10 _ _ upd_same) (.cons .str (.cons (b0.mono (Sn.of (s6.trans (t7.trans t8')))) (.cons (.mk (t9' _ _ upd_same) (za.imp fun x y h => h.mono (Sn.of (t7.trans t8')))) .nil))))
      rw [l_opn, l_cls, S_app, S_app] <;> rfl
theorem ok_ltree (T : Txt K mg) : ∀ n : Nat, CallF P w K mg base (n + 2) "_law_tree" ["_law_left", "_law_deep", "_law_names_here"] [] (spLTree K n)
  | 0 => ok_ltree0 T
  | n + 1 => ok_ltreeS T n (ok_ltree T n)
end
end Mh
namespace Mh
open PySem PySem.Spec PyProof.Rows L2 TL
theorem DatAt.monoT {H H' : Hp} (s : ∀ b xs, H b = some (.tup xs) → H' b = some (.tup xs)) {v : V} {d : Dat} (h : DatAt H v d) : DatAt H' v d := by
  induction h with
  | int => exact .int
  | str => exact .str
  | tup e1 e2 _ ih => exact .tup (s _ _ e1) e2 fun j v d h1 h2 => ih j v d h1 h2
theorem All2.snoc {A B : Type} {R : A → B → Prop} {xs : List A} {ys : List B} {x : A} {y : B} (h : All2 R xs ys) (r : R x y) : All2 R (xs ++ [x]) (ys ++ [y]) := by
  induction h with
  | nil => exact .cons r .nil
  | cons r' _ ih => exact .cons r' ih
/-- the law's heap: what no step of its loop touches -/
noncomputable def gz (m ak rt wt du : Addr) (roots : List Addr) (H : Hp) : Hp := mask (fun b => b = m ∨ b = ak ∨ b = rt ∨ b = wt ∨ b = du ∨ b ∈ roots) H
structure LawI (K : PySem.W.Frag) (Hb H : Hp) (m cl ak rt wt du : Addr) (w0 w1 : Cs) (nm : List Cs) (roots : List Addr) (ts : List LT) (dvs : List V) : Prop where
  eob : ∃ dx a1 a2 a3 : Addr, H m = some (.ins (cM K) dx (mkF (.ref cl) (.ref a1) (.ref a2) (.ref a3) (.ref ak) (.ref rt) (.ref wt) (.int 2) (.int 2)))
  eak : H ak = some (.lst [])
  ert : H rt = some (.lst (roots.map V.ref))
  ewt : H wt = some (.lst (roots.map V.ref))
  edu : H du = some (.lst dvs)
  nd : [ak, rt, wt, du].Nodup
  sb : Same Hb (gz m ak rt wt du roots H)
  ecl : ClA K (gz m ak rt wt du roots H) cl w0 w1
  rn : roots.Nodup
  rl : roots.length = ts.length
  op : ∀ (j : Nat) a t, roots[j]? = some a → ts[j]? = some t → (∃ (dx ta lb : Addr) (d : Int), H a = some (.ins (cS K) dx (spF (.ref ta) (.int d) (.str "open") .non .non (.ref lb))) ∧ gz m ak rt wt du roots H lb = some (.lst []) ∧ TreeAt K (gz m ak rt wt du roots H) ta t.tr) ∧ LOk nm 4 t
  dv : All2 (DatAt (gz m ak rt wt du roots H)) dvs (ts.map LT.core)
theorem LawI.step {K : PySem.W.Frag} {Hb H H' N : Hp} {m cl ak rt wt du s dx ta lb : Addr} {w0 w1 : Cs} {nm : List Cs} {roots : List Addr} {ts : List LT} {dvs : List V} {t : LT} {cv : V}
    (I : LawI K Hb H m cl ak rt wt du w0 w1 nm roots ts dvs) (f : Fr [rt, wt, du] H H') (hs : H s = none) (hlb : H lb = none) (es : H' s = some (.ins (cS K) dx (spF (.ref ta) (.int 0) (.str "open") .non .non (.ref lb)))) (el : H' lb = some (.lst []))
    (e1 : H' rt = some (.lst (roots.map V.ref ++ [.ref s]))) (e2 : H' wt = some (.lst (roots.map V.ref ++ [.ref s]))) (e3 : H' du = some (.lst (dvs ++ [cv])))
    (tr : TreeAt K N ta t.tr) (hN : ∀ b o, N b = some o → H b = none ∧ H' b = some o ∧ b ≠ s) (dc : DatAt H' cv t.core) (o : LOk nm 4 t) :
    LawI K Hb H' m cl ak rt wt du w0 w1 nm (roots ++ [s]) (ts ++ [t]) (dvs ++ [cv]) := by
  obtain ⟨dm, a1, a2, a3, hm⟩ := I.eob
  have hk := I.eak
  have nd := I.nd
  simp only [List.nodup_cons, List.mem_cons, List.not_mem_nil, or_false, not_or, List.nodup_nil, and_true] at nd
  obtain ⟨⟨n1, n2, n3⟩, ⟨n4, n5⟩, n6, _⟩ := nd
  have mr : m ≠ rt := ne_of hm I.ert (by intro z; cases z)
  have mw : m ≠ wt := ne_of hm I.ewt (by intro z; cases z)
  have md : m ≠ du := ne_of hm I.edu (by intro z; cases z)
  have hm' := f _ _ hm (by simp [mr, mw, md])
  have hk' := f _ _ hk (by simp [n1, n2, n3])
  have inr : ∀ b ∈ roots, ∃ C dx fs, H b = some (.ins C dx fs) := fun b hb => by
    obtain ⟨j, hj, e⟩ := List.mem_iff_getElem.mp hb
    obtain ⟨⟨dx, ta, lb, d, h1, _⟩, _⟩ := I.op j b (ts[j]'(by rw [← I.rl]; exact hj)) (by rw [List.getElem?_eq_getElem hj, e]) (List.getElem?_eq_getElem (by rw [← I.rl]; exact hj))
    exact ⟨_, _, _, h1⟩
  have rout : ∀ b ∈ roots, b ≠ rt ∧ b ≠ wt ∧ b ≠ du ∧ b ≠ s := fun b hb => by
    obtain ⟨C, dx, fs, h⟩ := inr b hb
    exact ⟨ne_of h I.ert (by intro z; cases z), ne_of h I.ewt (by intro z; cases z), ne_of h I.edu (by intro z; cases z), fun z => by rw [z, hs] at h; cases h⟩
  have un : ∀ b u, H' b = some u → b ≠ m → b ≠ ak → b ≠ rt → b ≠ wt → b ≠ du → ¬ b ∈ roots → b ≠ s → gz m ak rt wt du (roots ++ [s]) H' b = some u := fun b u e q1 q2 q3 q4 q5 q6 q7 => by
    refine mask_mk ?_ e
    rw [List.mem_append, List.mem_singleton]
    rintro (z | z | z | z | z | z | z)
    · exact q1 z
    · exact q2 z
    · exact q3 z
    · exact q4 z
    · exact q5 z
    · exact q6 z
    · exact q7 z
  have ss : Same (gz m ak rt wt du roots H) (gz m ak rt wt du (roots ++ [s]) H') := fun b u e => by
    obtain ⟨hp, e'⟩ := mask_some e
    have q1 : b ≠ m := fun z => hp (.inl z)
    have q2 : b ≠ ak := fun z => hp (.inr (.inl z))
    have q3 : b ≠ rt := fun z => hp (.inr (.inr (.inl z)))
    have q4 : b ≠ wt := fun z => hp (.inr (.inr (.inr (.inl z))))
    have q5 : b ≠ du := fun z => hp (.inr (.inr (.inr (.inr (.inl z)))))
    have q6 : ¬ b ∈ roots := fun z => hp (.inr (.inr (.inr (.inr (.inr z)))))
    exact un b u (f b u e' (by simp [q3, q4, q5])) q1 q2 q3 q4 q5 q6 fun z => by rw [z, hs] at e'; cases e'
  -- what is new is unmasked
  have new : ∀ b u, H b = none → H' b = some u → b ≠ s → gz m ak rt wt du (roots ++ [s]) H' b = some u := fun b u e e' q => by
    refine un b u e' ?_ ?_ ?_ ?_ ?_ ?_ q
    · rintro rfl; rw [hm] at e; cases e
    · rintro rfl; rw [hk] at e; cases e
    · rintro rfl; rw [I.ert] at e; cases e
    · rintro rfl; rw [I.ewt] at e; cases e
    · rintro rfl; rw [I.edu] at e; cases e
    · intro z
      obtain ⟨C, dx, fs, h⟩ := inr b z
      rw [h] at e
      cases e
  refine ⟨⟨dm, a1, a2, a3, hm'⟩, hk', by rw [e1, List.map_append] <;> rfl, by rw [e2, List.map_append] <;> rfl, e3, I.nd, fun b u e => ss b u (I.sb b u e), I.ecl.mono ss, ?_, by rw [List.length_append, List.length_append, I.rl] <;> rfl, ?_, ?_⟩
  · rw [List.nodup_append]
    refine ⟨I.rn, by simp, fun x hx y hy => ?_⟩
    rw [List.mem_singleton.mp hy]
    exact (rout x hx).2.2.2
  · intro j a t' h1 h2
    by_cases hj : j < roots.length
    · rw [List.getElem?_append_left hj] at h1
      rw [List.getElem?_append_left (by rw [← I.rl]; exact hj)] at h2
      obtain ⟨⟨dx1, ta1, lb1, d1, g1, g2, g3⟩, g4⟩ := I.op j a t' h1 h2
      obtain ⟨r1, r2, r3, r4⟩ := rout a (List.mem_of_getElem? h1)
      exact ⟨⟨dx1, ta1, lb1, d1, f _ _ g1 (by simp [r1, r2, r3]), ss _ _ g2, g3.mono ss⟩, g4⟩
    · have hj' := (List.getElem?_eq_some_iff.mp h1).1
      rw [List.length_append, List.length_singleton] at hj'
      have ej : j = roots.length := by omega
      subst ej
      rw [List.getElem?_append_right (Nat.le_refl _), Nat.sub_self] at h1
      rw [List.getElem?_append_right (by rw [I.rl]; exact Nat.le_refl _), I.rl, Nat.sub_self] at h2
      have ea : s = a := Option.some.inj h1
      have et : t = t' := Option.some.inj h2
      subst ea
      subst et
      refine ⟨⟨dx, ta, lb, 0, es, new _ _ hlb el (ne_of el es (by intro z; cases z)), tr.mono fun b u e => ?_⟩, o⟩
      obtain ⟨q1, q2, q3⟩ := hN b u e
      exact new b u q1 q2 q3
  · rw [List.map_append]
    refine (I.dv.imp fun x y h => h.mono (Sn.of ss)).snoc (dc.monoT fun b xs e => ?_)
    refine un b _ e ?_ ?_ ?_ ?_ ?_ ?_ ?_
    · rintro rfl; rw [hm'] at e; cases e
    · rintro rfl; rw [hk'] at e; cases e
    · rintro rfl; rw [e1] at e; cases e
    · rintro rfl; rw [e2] at e; cases e
    · rintro rfl; rw [e3] at e; cases e
    · intro z
      obtain ⟨C, dx, fs, h⟩ := inr b z
      obtain ⟨r1, r2, r3, _⟩ := rout b z
      rw [f _ _ h (by simp [r1, r2, r3])] at e
      cases e
    · rintro rfl; rw [es] at e; cases e
/-- behind the loop: what the turns ask -/
theorem LawI.work {K : PySem.W.Frag} {Hb H : Hp} {m cl ak rt wt du : Addr} {w0 w1 : Cs} {nm : List Cs} {roots : List Addr} {ts : List LT} {dvs : List V} (I : LawI K Hb H m cl ak rt wt du w0 w1 nm roots ts dvs) (N : Names nm) (e0 : nm[0]? = some w0) (e1 : nm[1]? = some w1) :
    WkInv K H m cl ak rt wt w0 w1 [] nm (roots.zip ts) roots ts ∧ Same (gz m ak rt wt du roots H) (frz m ak (roots.zip ts) H) ∧ frz m ak (roots.zip ts) H du = some (.lst dvs) := by
  obtain ⟨dm, a1, a2, a3, hm⟩ := I.eob
  have nd := I.nd
  simp only [List.nodup_cons, List.mem_cons, List.not_mem_nil, or_false, not_or, List.nodup_nil, and_true] at nd
  obtain ⟨⟨n1, n2, n3⟩, ⟨n4, n5⟩, n6, _⟩ := nd
  have mapW : (roots.zip ts).map Prod.fst = roots := zip_fst I.rl
  have gs : Same (gz m ak rt wt du roots H) (frz m ak (roots.zip ts) H) := mask_same fun b o e hp => ⟨by
    rw [mapW]
    rintro (z | z | z)
    · exact hp (.inl z)
    · exact hp (.inr (.inl z))
    · exact hp (.inr (.inr (.inr (.inr (.inr z))))), e⟩
  have gk : Same (gz m ak rt wt du roots H) (mask (fun b => b = ak) H) := mask_same fun b o e hp => ⟨fun z => hp (.inr (.inl z)), e⟩
  have inr : ∀ b ∈ roots, ∃ C dx fs, H b = some (.ins C dx fs) := fun b hb => by
    obtain ⟨j, hj, e⟩ := List.mem_iff_getElem.mp hb
    obtain ⟨⟨dx, ta, lb, d, h1, _⟩, _⟩ := I.op j b (ts[j]'(by rw [← I.rl]; exact hj)) (by rw [List.getElem?_eq_getElem hj, e]) (List.getElem?_eq_getElem (by rw [← I.rl]; exact hj))
    exact ⟨_, _, _, h1⟩
  have un : ∀ b l, H b = some (.lst l) → b ≠ ak → frz m ak (roots.zip ts) H b = some (.lst l) := fun b l e q => by
    refine mask_mk ?_ e
    rw [mapW]
    rintro (z | z | z)
    · rw [z, hm] at e; cases e
    · exact q z
    · obtain ⟨C, dx, fs, h⟩ := inr b z
      rw [h] at e
      cases e
  refine ⟨⟨⟨⟨dm, a1, a2, a3, hm⟩, I.ecl.mono gk, I.eak⟩, N, e0, e1, ?_, Ne.symm n2, by rw [mapW]; exact I.rn, fun p hp => ?_, un _ _ I.ert (Ne.symm n1), I.rl, fun j r t h1 h2 => ?_⟩, gs, un _ _ I.edu (Ne.symm n3)⟩
  · rw [I.ewt]
    have e : (roots.zip ts).map (fun p => V.ref p.1) = roots.map V.ref := by
      have : (roots.zip ts).map (fun p => V.ref p.1) = ((roots.zip ts).map Prod.fst).map V.ref := by rw [List.map_map] <;> rfl
      rw [this, mapW]
    rw [e]
  · obtain ⟨j, q1, q2⟩ := zip_mem hp
    obtain ⟨⟨dx, ta, lb, d, h1, h2, h3⟩, o⟩ := I.op j _ _ q1 q2
    exact ⟨⟨dx, ta, lb, d, h1, gs _ _ h2, h3.mono gs⟩, o⟩
  · exact ⟨.opn (mem_zip h1 h2), (I.op j r t h1 h2).2⟩
theorem nsz4 : nsz 4 = 341 := by decide
theorem wsum_zip_le {nm : List Cs} {roots : List Addr} {ts : List LT} (h : roots.length = ts.length) (h3 : ts.length ≤ 3) (ho : ∀ t ∈ ts, LOk nm 4 t) : wsum (roots.zip ts) = LT.turnss ts ∧ LT.turnss ts ≤ 1023 := by
  have e : wsum (roots.zip ts) = LT.turnss ts := by rw [wsum_zip h, turnss_map]
  refine ⟨e, ?_⟩
  rw [turnss_map]
  have := sum_le_mul (ts.map LT.turns) 341 fun x hx => by
    obtain ⟨t, ht, e⟩ := List.mem_map.mp hx
    rw [← e, ← nsz4]
    exact turns_le (ho t ht)
  rw [List.length_map] at this
  have h5 : ts.length * 341 ≤ 3 * 341 := Nat.mul_le_mul_right _ h3
  omega
/-- how deep the cores are -/
theorem core_dle {nm : List Cs} : ∀ {n : Nat} {t : LT}, LOk nm n t → DLe (2 * n + 1) t.core
  | n, .num z, _ => by
    show DLe (2 * n + 1) (.tup [.str "num", .int z])
    unfold DLe
    refine ⟨by simp, fun d hd => ?_⟩
    simp only [List.mem_cons, List.not_mem_nil, or_false] at hd
    rcases hd with rfl | rfl
    · unfold DLe; cases 2 * n <;> trivial
    · unfold DLe; cases 2 * n <;> trivial
  | n, .seen k w, _ => by
    show DLe (2 * n + 1) (.tup [.str "seen", .int (k : Nat)])
    unfold DLe
    refine ⟨by simp, fun d hd => ?_⟩
    simp only [List.mem_cons, List.not_mem_nil, or_false] at hd
    rcases hd with rfl | rfl
    · unfold DLe; cases 2 * n <;> trivial
    · unfold DLe; cases 2 * n <;> trivial
  | n, .free w, _ => by
    show DLe (2 * n + 1) (.tup [.str "free", .str (S w)])
    unfold DLe
    refine ⟨by simp, fun d hd => ?_⟩
    simp only [List.mem_cons, List.not_mem_nil, or_false] at hd
    rcases hd with rfl | rfl
    · unfold DLe; cases 2 * n <;> trivial
    · unfold DLe; cases 2 * n <;> trivial
  | 0, .node _ _, h => by unfold LOk at h; exact h.elim
  | n + 1, .node kd ps, h => by
    unfold LOk at h
    have hpos := h.1.pos
    have hc : ∀ d ∈ LT.cors ps, DLe (2 * n + 1) d := fun d hd => by
      rw [cors_map] at hd
      obtain ⟨p, hp, e⟩ := List.mem_map.mp hd
      rw [← e]
      exact core_dle (h.2 p hp)
    have hl : (LT.cors ps).length = ps.length := by rw [cors_map, List.length_map]
    show DLe (2 * (n + 1) + 1) (coreN kd (LT.cors ps))
    rw [show 2 * (n + 1) + 1 = (2 * n + 1) + 1 + 1 by omega]
    generalize LT.cors ps = cs at hc hl
    have up : ∀ {m : Nat} {d : Dat}, DLe m d → DLe (m + 1) d := by
      intro m
      induction m with
      | zero =>
        intro d hd
        cases d with
        | int _ => unfold DLe; trivial
        | str _ => unfold DLe; trivial
        | tup ds => unfold DLe at hd; exact hd.elim
      | succ m ih =>
        intro d hd
        cases d with
        | int _ => unfold DLe; trivial
        | str _ => unfold DLe; trivial
        | tup ds =>
          unfold DLe at hd ⊢
          exact ⟨hd.1, fun d h => ih (hd.2 d h)⟩
    have hstr : ∀ (m : Nat) (s : Str), DLe m (.str s) := fun m s => by cases m <;> (unfold DLe; trivial)
    cases kd with
    | call =>
      cases cs with
      | nil =>
        show DLe _ (.tup [])
        unfold DLe
        exact ⟨by simp, fun d hd => by cases hd⟩
      | cons c r =>
        show DLe _ (.tup [.str "call", c, .tup r])
        unfold DLe
        refine ⟨by simp, fun d hd => ?_⟩
        simp only [List.mem_cons, List.not_mem_nil, or_false] at hd
        rw [List.length_cons] at hl
        rcases hd with rfl | rfl | rfl
        · exact hstr _ _
        · exact up (hc _ List.mem_cons_self)
        · unfold DLe
          exact ⟨by omega, fun d hd => hc d (List.mem_cons_of_mem _ hd)⟩
    | pick =>
      show DLe _ (.tup (.str "pick" :: cs))
      unfold DLe
      refine ⟨by rw [List.length_cons]; omega, fun d hd => ?_⟩
      rcases List.mem_cons.mp hd with rfl | hd
      · exact hstr _ _
      · exact up (hc d hd)
    | now =>
      show DLe _ (.tup (.str "now" :: cs))
      unfold DLe
      refine ⟨by rw [List.length_cons]; omega, fun d hd => ?_⟩
      rcases List.mem_cons.mp hd with rfl | hd
      · exact hstr _ _
      · exact up (hc d hd)
end Mh
namespace Mh
open PySem PySem.Spec PyProof.Rows L2 TL
theorem turnss_snoc (ts : List LT) (t : LT) : LT.turnss (ts ++ [t]) = LT.turnss ts + t.turns := by
  rw [turnss_map, turnss_map, List.map_append, List.sum_append]
  show _ + (t.turns + 0) = _
  omega
theorem ksz4 : ksz 4 = 511 := by decide
theorem tsz4 : tsz 4 = 26790 := by decide
theorem MkNew.of {K : PySem.W.Frag} {H H' : Hp} {m dx cl dc r a1 a2 a3 ak rt wt : Addr} {p : Int} {rows xs ys : List V} (M : MkNew K H m dx cl dc r a1 a2 a3 ak rt wt p rows xs ys) (h : ∀ b ∈ [m, cl, r, ak, rt, wt], ∀ o, H b = some o → H' b = some o) : MkNew K H' m dx cl dc r a1 a2 a3 ak rt wt p rows xs ys :=
  ⟨h m (by simp) _ M.eob, h cl (by simp) _ M.ecl, h r (by simp) _ M.er, h ak (by simp) _ M.eak, h rt (by simp) _ M.ert, h wt (by simp) _ M.ewt, M.nd⟩
theorem MkNew.step {K : PySem.W.Frag} {H H' : Hp} {m dx cl dc r a1 a2 a3 ak rt wt : Addr} {p p' : Int} {rows rows' xs ys : List V} (M : MkNew K H m dx cl dc r a1 a2 a3 ak rt wt p rows xs ys) (f : Fr [m, r] H H')
    (e1 : H' m = some (.ins (cM K) dx (mkF (.ref cl) (.ref a1) (.ref a2) (.ref a3) (.ref ak) (.ref rt) (.ref wt) (.int p') (.int p')))) (e2 : H' r = some (.lst rows')) : MkNew K H' m dx cl dc r a1 a2 a3 ak rt wt p' rows' xs ys := by
  have hm := M.eob
  have nd := M.nd
  simp only [List.nodup_cons, List.mem_cons, List.not_mem_nil, or_false, not_or, List.nodup_nil, and_true] at nd
  obtain ⟨⟨n1, n2, n3⟩, _⟩ := nd
  refine ⟨e1, f _ _ M.ecl ?_, e2, f _ _ M.eak ?_, f _ _ M.ert ?_, f _ _ M.ewt ?_, M.nd⟩
  · simp only [List.mem_cons, List.not_mem_nil, or_false, not_or]
    exact ⟨ne_of M.ecl hm (by intro z; injection z with z1 z2 z3; cases z3), ne_of M.ecl M.er (by intro z; cases z)⟩
  · simp only [List.mem_cons, List.not_mem_nil, or_false, not_or]
    exact ⟨ne_of M.eak hm (by intro z; cases z), Ne.symm n1⟩
  · simp only [List.mem_cons, List.not_mem_nil, or_false, not_or]
    exact ⟨ne_of M.ert hm (by intro z; cases z), Ne.symm n2⟩
  · simp only [List.mem_cons, List.not_mem_nil, or_false, not_or]
    exact ⟨ne_of M.ewt hm (by intro z; cases z), Ne.symm n3⟩
/-- the rows of the claims put so far -/
def RowsOk (H : Hp) (nm : List Cs) (rows : List V) (i : Nat) : Prop := rows.length = i ∧ ∀ (j : Nat) w, j < i → nm[j]? = some w → ∃ t q : Addr, rows[j]? = some (.ref t) ∧ H t = some (.tup [.str (S w), .int (9 * (j : Int)), .int 0, .ref q]) ∧ H q = some (.tup [.str "seen", .int (j : Nat)])
theorem RowsOk.mono {H H' : Hp} {nm : List Cs} {rows : List V} {i : Nat} (h : RowsOk H nm rows i) (s : ∀ b xs, H b = some (.tup xs) → H' b = some (.tup xs)) : RowsOk H' nm rows i :=
  ⟨h.1, fun j w hj hw => by
    obtain ⟨t, q, h1, h2, h3⟩ := h.2 j w hj hw
    exact ⟨t, q, h1, s _ _ h2, s _ _ h3⟩⟩
/-- before the loop -/
theorem LawI.start {K : PySem.W.Frag} {Hb H : Hp} {m dx cl dc r a1 a2 a3 ak rt wt du : Addr} {nm : List Cs} {rows : List V} {w0 w1 : Cs} (M : MkNew K H m dx cl dc r a1 a2 a3 ak rt wt 2 rows [] []) (R : RowsOk H nm rows 2) (N : Names nm) (e0 : nm[0]? = some w0) (e1 : nm[1]? = some w1)
    (s : Same Hb H) (fm : Hb m = none) (fr : ∀ b ∈ [cl, r, ak, rt, wt], Hb b = none) (hdu : H du = none) : LawI K Hb (upd H du (.lst [])) m cl ak rt wt du w0 w1 nm [] [] [] := by
  have sd : Same H (upd H du (.lst [])) := Same.put hdu
  have nd := M.nd
  simp only [List.nodup_cons, List.mem_cons, List.not_mem_nil, or_false, not_or, List.nodup_nil, and_true] at nd
  obtain ⟨⟨n1, n2, n3⟩, ⟨n4, n5⟩, n6, _⟩ := nd
  have dn : ∀ b o, H b = some o → b ≠ du := fun b o e => ne_of_none e hdu
  have un : ∀ b o, H b = some o → b ≠ m → b ≠ ak → b ≠ rt → b ≠ wt → gz m ak rt wt du [] (upd H du (.lst [])) b = some o := fun b o e q1 q2 q3 q4 => by
    refine mask_mk ?_ (sd _ _ e)
    rintro (z | z | z | z | z | z)
    · exact q1 z
    · exact q2 z
    · exact q3 z
    · exact q4 z
    · exact dn b o e z
    · cases z
  have tup : ∀ b xs, H b = some (.tup xs) → gz m ak rt wt du [] (upd H du (.lst [])) b = some (.tup xs) := fun b xs e => un b _ e (ne_of e M.eob (by intro z; cases z)) (ne_of e M.eak (by intro z; cases z)) (ne_of e M.ert (by intro z; cases z)) (ne_of e M.ewt (by intro z; cases z))
  refine ⟨⟨dx, a1, a2, a3, sd _ _ M.eob⟩, sd _ _ M.eak, sd _ _ M.ert, sd _ _ M.ewt, upd_same, ?_, fun b o e => ?_, ⟨?_, ?_⟩, List.nodup_nil, rfl, fun j a t h => by simp at h, .nil⟩
  · simp only [List.nodup_cons, List.mem_cons, List.not_mem_nil, or_false, not_or, List.nodup_nil, and_true]
    exact ⟨⟨n4, n5, dn _ _ M.eak⟩, ⟨n6, dn _ _ M.ert⟩, dn _ _ M.ewt, not_false⟩
  · have nb : ∀ c, Hb c = none → b ≠ c := fun c hc z => by rw [z, hc] at e; cases e
    exact un b o (s b o e) (nb m fm) (nb ak (fr ak (by simp))) (nb rt (fr rt (by simp))) (nb wt (fr wt (by simp)))
  · obtain ⟨t0, q0, g1, g2, g3⟩ := R.2 0 w0 (by decide) e0
    obtain ⟨t1, q1, k1, k2, k3⟩ := R.2 1 w1 (by decide) e1
    have er : rows = [.ref t0, .ref t1] := by
      have hl := R.1
      match rows, hl, g1, k1 with
      | [x, y], _, g1, k1 =>
        rw [Option.some.inj g1, Option.some.inj k1]
    refine ⟨dc, r, t0, t1, q0, q1, un _ _ M.ecl (ne_of M.ecl M.eob (by intro z; injection z with z1 z2 z3; cases z3)) (ne_of M.ecl M.eak (by intro z; cases z)) (ne_of M.ecl M.ert (by intro z; cases z)) (ne_of M.ecl M.ewt (by intro z; cases z)), ?_, tup _ _ g2, tup _ _ k2, tup _ _ g3, tup _ _ k3⟩
    rw [← er]
    exact un _ _ M.er (ne_of M.er M.eob (by intro z; cases z)) n1 n2 n3
  · rintro rfl
    have := nm_inj N e0 e1
    omega
section
variable {P : Program} {w : World} {K : PySem.W.Frag} {mg : Str → Option Value} {base : Heap}
theorem ok_word3 (T : Txt K mg) : CallC P w K mg base 2 "Word" (cW K) ["self", "name", "at", "bits"] [] (spWordI K) := by
  obtain ⟨fd, F⟩ := T.f_Word_init
  obtain ⟨fdT, bT, kT, GT⟩ := ok_tree (P := P) (w := w) (base := base) T
  obtain ⟨ds, hd, hb⟩ := F.binds1 (ps := ["self", "name", "at", "bits"]) 4 1 (by simp) rfl fun Tt kV doc pm an cdv ct us its hu hi => match us, its, hu, hi with | [_, _, _, _], [_], _, _ => ⟨_, rfl, rfl⟩
  refine ⟨_, fd, ds, T.g_Word, T.k_Word, hb, hd, okN F sc_word (fun vs H Q E h => ?_) fun cdv A outer s H vs Q E hr h => ?_⟩
  · obtain ⟨a, dx, nm, i, rfl, _⟩ := h
    rfl
  obtain ⟨a, dx, nm, i, rfl, ha, q⟩ := h
  refine ⟨_, pss_cons (ps_expr (pcf (pgr T.g_Tree) T.exP.rd T.exP.ga T.exP.fi kT GT bT hr (pa_cons (pv 0) (pa_cons (pv 2) (pa_cons pe_int (pa_cons pe_int pa_nil))))))
    (pss_cons (ps_fld (pv 0) (pv 1) rfl) (pss_one (ps_fld (pv 0) (pv 3) rfl))), ?_⟩
  refine ⟨rfl, _, rfl, _, rfl, a, cW K, dx, i, 1, 0, rfl, T.c_Word, T.n_Word_at, T.n_Word_many, T.n_Word_deep, ha, ?_⟩
  refine ⟨_, rfl, _, rfl, a, _, dx, _, rfl, upd_same, T.c_Word, T.n_Word_name, (by show 3 < 1000; decide), _, rfl, _, rfl, a, _, dx, _, rfl, upd_same, T.c_Word, T.n_Word_bits, (by rw [wd_1]; show 4 < 1000; decide), ?_⟩
  show Q .non _
  rw [upd_upd, upd_upd, wd_1, wd_2]
  exact q
/-! ### law -/
theorem sc_law : FnScope ["_law_script", "_law_names_here", "_law_maker", "_law_k", "_law_due", "_law_turns", "_law_one", "_law_j", "_law_many", "_law_found"] ["_law_script"] (defScope s_law) := ⟨rfl, rfl, rfl, by decide +kernel, rfl, by decide +kernel, by decide +kernel⟩
def spLaw (K : PySem.W.Frag) : Sp := fun vs H Q _ => ∃ (a : Addr) (ns : List Int), vs = [.ref a] ∧ SqL K H a (ns.map V.int) ∧ ∀ H', Q (.bl true) H'
theorem ok_law (T : Txt K mg) {fd : FuncData} (F : FunD K "law" "law" (defArgs s_law) (defBody s_law) (defScope s_law) [] [] (He.ga K "law") fd) : FnOk P w K mg base CX0 13 (He.ga K "law") fd ["_law_script"] (spLaw K) := by
  have gCell := ok_cell (P := P) (w := w) (base := base) T
  have gNames := ok_names (P := P) (w := w) (base := base) T
  have gMk := ok_mkI (P := P) (w := w) (base := base) T
  have gTop := ok_top (P := P) (w := w) (base := base) T
  have gWord := ok_word3 (P := P) (w := w) (base := base) T
  have gTree := ok_ltree (P := P) (w := w) (base := base) T 4
  have gRead := ok_read (P := P) (w := w) (base := base) T
  have gPut := ok_mput (P := P) (w := w) (base := base) T
  have gMake := ok_make (P := P) (w := w) (base := base) T
  have gWhole := ok_whole (P := P) (w := w) (base := base) T
  have gOut := ok_outcome (P := P) (w := w) (base := base) T
  have gAll := ok_all (P := P) (w := w) (base := base) T 10
  have gTurn := ok_turn (P := P) (w := w) (base := base) T
  refine okN F sc_law (fun vs H Q E h => ?_) fun cdv A outer s H vs Q E hr h => ?_
  · obtain ⟨a, ns, rfl, _⟩ := h
    rfl
  obtain ⟨a, ns, rfl, hs, k⟩ := h
  refine ⟨_, pss_cons (ps_set (i := 1) sc_law.nd rfl (Or.inr rfl) (pf gNames (hr.mono (by decide)) (by rfl) (pa_cons (pf gCell (hr.mono (by decide)) (by rfl) (pa_cons (pv 0) (pa_cons pe_int pa_nil))) (pa_cons pe_int pa_nil))))
    (pss_cons (ps_set (i := 2) sc_law.nd rfl (Or.inr rfl) (pc0 gMk (hr.mono (by decide)) (by rfl)))
    (pss_cons (ps_if (pt_cmpR (op_neD (hu64 hr)) (pe_lc (own := [("_law_k", 3)]) (g := gName 3) (tt := tYes)
      (te := tMeth (cM K) "top" (spTop K) [] E0 (tVar 2) (tCons (tMake (cW K) (spWordI K) [] E0 (tCons (tOp (rIxL K) (tVar 1) (tVar 3)) (tCons (tOp (rI CMul fun i j => .int (i * j)) (tC (.int 9)) (tVar 3)) (tCons (tC (.int 0)) tNil)))) tNil)) rfl sc_law.nd (pi_range1 (by rfl) T.z_range (pa_cons pe_int pa_nil))
      (blkOk_by (own := [("_law_k", 3)]) (N := ["_law_script", "_law_names_here", "_law_maker", "_law_k", "_law_due", "_law_turns", "_law_one", "_law_j", "_law_many", "_law_found"]) (sc := defScope s_law) (by decide +kernel)) (fun _ _ _ _ _ => pg_name (i := 3) sc_law.nd rfl (Or.inl rfl)) (fun _ _ _ _ _ => pts_nil)
      (fun _ _ _ _ _ => pm gTop (pv 2) (hr.mono (by decide)) (pa_cons (pc gWord (hr.mono (by decide)) (by rfl) (pa_cons (pe_ix ix_list (pv 1) (pv 3) (fun _ _ => rfl)) (pa_cons (pe_op op_mul pe_int (pv 3)) (pa_cons pe_int pa_nil)))) pa_nil)))
      (pe_lst (pa_cons pe_int (pa_cons pe_int pa_nil))) (nomark _)) (pss_one (ps_ret pe_bl)) pss_nil)
    (pss_cons (ps_set (i := 4) sc_law.nd rfl (Or.inl rfl) (pe_lst pa_nil))
    (pss_cons (ps_set (i := 5) sc_law.nd rfl (Or.inl rfl) pe_int)
    (pss_cons (ps_for PassesOwn.never rfl (pi_range1 (by rfl) T.z_range (pa_cons (pe_op op_mod (pf gCell (hr.mono (by decide)) (by rfl) (pa_cons (pv 0) (pa_cons pe_int pa_nil))) pe_int) pa_nil)) (pg_name (i := 3) sc_law.nd rfl (Or.inr rfl))
      (pss_cons (ps_set (i := 6) sc_law.nd rfl (Or.inl rfl) (pf gTree (hr.mono (by decide)) (by rfl) (pa_cons (pe_lc (own := [("_law_j", 7)]) (g := gName 7) (tt := tYes) (te := tCall (spCell K) [] E0 (tCons (tVar 0) (tCons (tOp (rI0 fun i j => .int (i + j)) (tOp (rI0 fun i j => .int (i + j)) (tC (.int 2)) (tOp (rI CMul fun i j => .int (i * j)) (tC (.int 12)) (tVar 3))) (tVar 7)) tNil))) rfl sc_law.nd (pi_range1 (by rfl) T.z_range (pa_cons pe_int pa_nil))
        (blkOk_by (own := [("_law_j", 7)]) (N := ["_law_script", "_law_names_here", "_law_maker", "_law_k", "_law_due", "_law_turns", "_law_one", "_law_j", "_law_many", "_law_found"]) (sc := defScope s_law) (by decide +kernel)) (fun _ _ _ _ _ => pg_name (i := 7) sc_law.nd rfl (Or.inl rfl)) (fun _ _ _ _ _ => pts_nil)
        (fun _ _ _ _ _ => pf gCell (hr.mono (by decide)) (by rfl) (pa_cons (pv 0) (pa_cons (pe_op op_add (pe_op op_add pe_int (pe_op op_mul pe_int (pv 3))) (pv 7)) pa_nil)))) (pa_cons pe_int (pa_cons (pv 1) pa_nil)))))
      (pss_cons (ps_expr (pm gPut (pv 2) (hr.mono (by decide)) (pa_cons (pe_ix ix_list (pf gRead (hr.mono (by decide)) (by rfl) (pa_cons (pe_ix ix_tup (pv 6) pe_int (fun _ _ => rfl)) pa_nil)) pe_int (fun _ _ => rfl)) pa_nil)))
      (pss_cons (ps_expr (pe_bm PySem.F.plainAttrs_list PySem.F.slot_list_append PySem.F.type_list_append mt_append (pv 4) (pa_cons (pe_ix ix_tup (pv 6) pe_int (fun _ _ => rfl)) pa_nil)))
      (pss_one (ps_set (i := 5) sc_law.nd rfl (Or.inl rfl) (pe_op op_add (pv 5) (pe_ix ix_tup (pv 6) pe_int (fun _ _ => rfl)))))))))
    (pss_cons (ps_set (i := 8) sc_law.nd rfl (Or.inl rfl) (pf gMake (hr.mono (by decide)) (by rfl) (pa_cons (pv 2) pa_nil)))
    (pss_cons (ps_if (PW.pt (pw_or (pt_not (pt_val (pf gWhole (hr.mono (by decide)) (by rfl) (pa_cons (pv 8) pa_nil)))) (pw_or1 (pt_cmpR op_ne (pv 8) (pv 5) (nomark _))))) (pss_one (ps_ret pe_bl)) pss_nil)
    (pss_cons (ps_set (i := 9) sc_law.nd rfl (Or.inl rfl) (pf gOut (hr.mono (by decide)) (by rfl) (pa_cons (pv 2) pa_nil)))
    (pss_cons (ps_if (pt_not (pt_val (pf gAll hr (by rfl) (pa_cons (pv 9) (pa_cons (pv 4) pa_nil))))) (pss_one (ps_ret pe_bl)) pss_nil)
    (pss_cons (ps_expr (pe_bm PySem.F.plainAttrs_list PySem.F.slot_list_append PySem.F.type_list_append mt_append (pv 9) (pa_cons pe_int pa_nil)))
    (pss_cons (ps_expr (pf gTurn (hr.mono (by decide)) (by rfl) (pa_cons (pv 2) (pa_cons (pe_op op_mod (pf gCell (hr.mono (by decide)) (by rfl) (pa_cons (pv 0) (pa_cons pe_int pa_nil))) pe_int) pa_nil))))
    (pss_one (ps_ret (pe_and (pe_cmpR op_eq (pf gMake (hr.mono (by decide)) (by rfl) (pa_cons (pv 2) pa_nil)) pe_int (nomark _)) (pe_one (pf gAll hr (by rfl) (pa_cons (pf gOut (hr.mono (by decide)) (by rfl) (pa_cons (pv 2) pa_nil)) (pa_cons (pv 4) pa_nil)))))))))))))))))), ?_⟩
  -- the names
  refine ⟨_, rfl, a, ns, 0, rfl, hs, by decide, fun c0 => ⟨c0, rfl, fun H1 L nm N s1 hLn e1 => ?_⟩⟩
  have hs1 : SqL K H1 a (ns.map V.int) := s1.seq hs
  obtain ⟨w0, hw0⟩ : ∃ w0, nm[0]? = some w0 := ⟨nm[0]'(by rw [N.len]; decide), List.getElem?_eq_getElem _⟩
  obtain ⟨w1, hw1⟩ : ∃ w1, nm[1]? = some w1 := ⟨nm[1]'(by rw [N.len]; decide), List.getElem?_eq_getElem _⟩
  -- the maker
  intro m dx nm0 ndx nmd
  refine ⟨m, dx, rfl, upd_same, fun H2 cl dc r a1 a2 a3 ak rt wt f2 M2 fr2 => ⟨rfl, ?_⟩⟩
  have s2 : Same H1 H2 := fun b o e => f2 b o (Same.put2 nm0 ndx b o e) (by
    intro z
    rw [List.mem_singleton.mp z, nm0] at e
    cases e)
  have fresh : ∀ b ∈ [cl, r, ak, rt, wt], H1 b = none := fun b hb => by
    have := fr2 b hb
    cases q : H1 b with
    | none => rfl
    | some o => rw [Same.put2 nm0 ndx b o q] at this; cases this
  -- two claims
  refine ⟨_, rfl, by decide, by decide, fun D hD => ?_⟩
  have nD : ∀ b o, H2 b = some o → b ≠ D := fun b o e => ne_of_none e hD
  refine lc_range (fun i H' => ∃ rows : List V, Same H1 H' ∧ MkNew K H' m dx cl dc r a1 a2 a3 ak rt wt (i : Int) rows [] [] ∧ H' D = some (.lst ((List.range i).map fun j : Nat => V.int (j : Int))) ∧ RowsOk H' nm rows i)
    ⟨[], s2.trans (Same.put hD), M2.of fun b _ o e => (Same.put hD) b o e, upd_same, rfl, fun j w h => by omega⟩ ?_ ?_
  · rintro i H3 hi ⟨rows, s3, M3, d3, R3⟩
    have hi2 : i < 2 := hi
    refine ⟨rfl, yes ?_⟩
    obtain ⟨wi, hwi⟩ : ∃ wi, nm[i]? = some wi := ⟨nm[i]'(by rw [N.len]; omega), List.getElem?_eq_getElem _⟩
    have hat : atI (nmV nm) (0 + (i : Int)) = some (.str (S wi)) := by
      rw [Int.zero_add]
      exact atI_nat (by unfold nmV; rw [List.getElem?_map, hwi] <;> rfl)
    refine ⟨_, rfl, m, dx, _, rfl, M3.eob, mk_top, _, rfl, _, rfl, L, _, _, _, rfl, rfl, SqL.of (s3 _ _ e1), hat, _, rfl, _, _, rfl, rfl, .inl ⟨by decide, by decide⟩, fun x0 dx0 nx ndx0 nex => ?_⟩
    refine ⟨x0, dx0, S wi, _, rfl, upd_same, rfl, ?_⟩
    have s4 : Same H3 (upd (upd (upd H3 dx0 (.own x0)) x0 (.ins (cW K) dx0 [])) x0 (.ins (cW K) dx0 (wdF (9 * (0 + (i : Int))) (S wi)))) := fun b o e => by
      rw [upd_ne (ne_of_none e nx), upd_ne (ne_of_none e nx), upd_ne (ne_of_none e ndx0)]
      exact e
    have x4 : upd (upd (upd H3 dx0 (.own x0)) x0 (.ins (cW K) dx0 [])) x0 (.ins (cW K) dx0 (wdF (9 * (0 + (i : Int))) (S wi))) x0 = some (.ins (cW K) dx0 (wdF (9 * (0 + (i : Int))) (S wi))) := upd_same
    generalize upd (upd (upd H3 dx0 (.own x0)) x0 (.ins (cW K) dx0 [])) x0 (.ins (cW K) dx0 (wdF (9 * (0 + (i : Int))) (S wi))) = H4 at s4 x4
    have M4 := M3.of fun b _ o e => s4 b o e
    refine ⟨m, dx, cl, dc, r, x0, dx0, _, _, _, _, _, _, (i : Int), _, rows, wi, rfl, M4.eob, M4.ecl, M4.er, (by rw [R3.1]; omega), x4, fun H5 tr q f5 m5 r5 t5 q5 => ?_⟩
    have d4 := s4 _ _ d3
    have nDm : D ≠ m := ne_of d4 M4.eob (by intro z; cases z)
    have rD : r ≠ D := nD _ _ M2.er
    have d5 := f5 _ _ d4 (by simp [nDm, rD.symm])
    have M5 := M4.step f5 m5 r5
    have R4 := R3.mono fun b xs e => s4 _ _ e
    have tupk : ∀ b xs, H4 b = some (.tup xs) → upd H5 D (.lst ((List.range i).map (fun j : Nat => V.int (j : Int)) ++ [.int (i : Int)])) b = some (.tup xs) := fun b xs e => by
      have e5 := f5 _ _ e (by
        simp only [List.mem_cons, List.not_mem_nil, or_false, not_or]
        exact ⟨ne_of e M4.eob (by intro z; cases z), ne_of e M4.er (by intro z; cases z)⟩)
      rw [upd_ne (ne_of e5 d5 (by intro z; cases z))]
      exact e5
    have tup5 : ∀ b xs, H5 b = some (.tup xs) → upd H5 D (.lst ((List.range i).map (fun j : Nat => V.int (j : Int)) ++ [.int (i : Int)])) b = some (.tup xs) := fun b xs e5 => by
      rw [upd_ne (ne_of e5 d5 (by intro z; cases z))]
      exact e5
    refine ⟨_, d5, sl1000 (by rw [List.length_map, List.length_range]; omega), rows ++ [.ref tr], ?_, ?_, ?_, ?_⟩
    · intro b o e
      have h3 := s3 _ _ e
      have n1 : b ≠ m := fun z => by rw [z, nm0] at e; cases e
      have n2 : b ≠ r := fun z => by rw [z, fresh r (by simp)] at e; cases e
      have n3 : b ≠ D := nD _ _ (s2 _ _ e)
      rw [upd_ne n3]
      exact f5 _ _ (s4 _ _ h3) (by simp [n1, n2])
    · refine MkNew.of (M5 : MkNew K H5 m dx cl dc r a1 a2 a3 ak rt wt ((i : Int) + 1) (rows ++ [.ref tr]) [] []) fun b hb o e => ?_
      rw [upd_ne]
      · exact e
      simp only [List.mem_cons, List.not_mem_nil, or_false] at hb
      rcases hb with rfl | rfl | rfl | rfl | rfl | rfl
      · exact nD _ _ M2.eob
      · exact nD _ _ M2.ecl
      · exact nD _ _ M2.er
      · exact nD _ _ M2.eak
      · exact nD _ _ M2.ert
      · exact nD _ _ M2.ewt
    · rw [upd_same, List.range_succ, List.map_append] <;> rfl
    · refine ⟨by rw [List.length_append, R3.1] <;> rfl, fun j w' hj hw' => ?_⟩
      by_cases hlt : j < i
      · obtain ⟨t', q', h1, h2, h3⟩ := (R4.mono tupk).2 j w' hlt hw'
        exact ⟨t', q', by rw [List.getElem?_append_left (by rw [R3.1]; exact hlt)]; exact h1, h2, h3⟩
      · have ej : j = i := by omega
        subst ej
        rw [hwi] at hw'
        have ew := Option.some.inj hw'
        subst ew
        refine ⟨tr, q, ?_, ?_, tup5 _ _ q5⟩
        · rw [List.getElem?_append_right (by rw [R3.1]; exact Nat.le_refl _), R3.1, Nat.sub_self] <;> rfl
        · refine tup5 _ _ ?_
          rw [t5, Int.zero_add]
  rintro H3 ⟨rows, s3, M3, d3, R3⟩
  refine ⟨by show 2 ≤ sizeLine; decide, fun z hz => ?_⟩
  have s4 : Same H3 (upd H3 z (.lst [.int 0, .int 1])) := Same.put hz
  have z4 : upd H3 z (.lst [.int 0, .int 1]) z = some (.lst [.int 0, .int 1]) := upd_same
  have d4 := s4 _ _ d3
  have M4 := M3.of fun b _ o e => s4 b o e
  have R4 := R3.mono fun b xs e => s4 _ _ e
  have s14 := s3.trans s4
  show rNeD _ _ _ (upd H3 z (.lst [.int 0, .int 1])) _
  generalize upd H3 z (.lst [.int 0, .int 1]) = H4 at s4 z4 d4 M4 R4 s14
  refine ⟨.list [.int 0, .int 1], .list [.int 0, .int 1], .lst (SqL.of d4) (.cons (.int 0) (.cons (.int 1) .nil)), .lst (SqL.of z4) (.cons (.int 0) (.cons (.int 1) .nil)), by decide +kernel, by decide +kernel, ?_⟩
  refine ⟨_, rfl, ?_⟩
  refine ifF (by decide +kernel) ?_
  -- what is due
  refine ⟨Nat.zero_le _, fun du hdu => ?_⟩
  have I0 := LawI.start M4 R4 N hw0 hw1 s14 nm0 fresh hdu
  show Ends.nx _ _ (upd H4 du (.lst []))
  generalize upd H4 du (.lst []) = H5 at I0
  have sb0 : ∀ {Hx roots ts dvs}, LawI K H1 Hx m cl ak rt wt du w0 w1 nm roots ts dvs → Same H1 Hx := fun I b o e => mask_sub _ _ (I.sb b o e)
  refine ⟨_, rfl, a, ns, 1, rfl, (sb0 I0).seq hs1, by decide, fun c1 => ⟨_, _, rfl, rfl, (show (0 : Int) < 4 by decide), ?_⟩⟩
  have hc0 : 0 ≤ c1 % 4 := Int.emod_nonneg _ (by decide)
  have hc4 : c1 % 4 < 4 := Int.emod_lt_of_pos _ (by decide)
  refine ⟨_, rfl, by omega, by omega, for_range (fun i σ H' => ∃ (v3 v6 v7 : Option V) (roots : List Addr) (ts : List LT) (dvs : List V), σ = [some (.ref a), some (.ref L), some (.ref m), v3, some (.ref du), some (.int (LT.turnss ts : Nat)), v6, v7, none, none] ∧
    LawI K H1 H' m cl ak rt wt du w0 w1 nm roots ts dvs ∧ ts.length = i) ⟨none, none, none, [], [], [], rfl, I0, rfl⟩ ?_ ?_⟩
  · rintro i σ Hx hi ⟨v3, v6, v7, roots, ts, dvs, rfl, I, hts⟩
    have hi3 : i < 3 := by omega
    have sbx := sb0 I
    obtain ⟨dm, a1', a2', a3', hm⟩ := I.eob
    -- the cells
    refine ⟨_, rfl, by decide, by decide, fun D hD => ?_⟩
    refine lc_range (fun j H' => ∃ cs : List Int, H' = upd Hx D (.lst (cs.map V.int)) ∧ cs.length = j) ⟨[], rfl, rfl⟩ ?_ ?_
    · rintro j H' hj ⟨cs, rfl, hcs⟩
      have hj12 : j < 12 := hj
      have ek : 2 + 12 * (0 + (i : Int)) + (0 + (j : Int)) = ((2 + 12 * i + j : Nat) : Int) := by omega
      refine ⟨rfl, yes ?_⟩
      refine ⟨_, rfl, _, rfl, _, _, rfl, rfl, .inl ⟨by decide, by decide⟩, _, _, rfl, rfl, _, rfl, _, _, rfl, rfl, a, ns, 2 + 12 * i + j, ?_, (Same.put hD).seq (sbx.seq hs1), by omega, fun c => ⟨_, upd_same, sl1000 (by rw [List.length_map]; omega), cs ++ [c], ?_, by rw [List.length_append, hcs] <;> rfl⟩⟩
      · show [V.ref a, V.int (2 + 12 * (0 + (i : Int)) + (0 + (j : Int)))] = _
        rw [ek]
      · rw [upd_upd, List.map_append] <;> rfl
    rintro H2' ⟨cs, rfl, hcs⟩
    have hcs12 : cs.length = 12 := hcs
    have t1 : Same Hx (upd Hx D (.lst (cs.map V.int))) := Same.put hD
    have d1 : upd Hx D (.lst (cs.map V.int)) D = some (.lst (cs.map V.int)) := upd_same
    generalize upd Hx D (.lst (cs.map V.int)) = Hy at t1 d1
    have eL := t1 _ _ (sbx _ _ e1)
    have nDL : D ≠ L := fun e => by
      have := sbx _ _ e1
      rw [e, this] at hD
      cases hD
    -- the tree
    refine ⟨_, rfl, D, L, cs, nm, rfl, by decide, d1, nDL, eL, N, by omega, fun Hz q t ns' fz _ _ tv ok => ?_⟩
    have t2 : Same Hx Hz := fun b o e => fz _ _ (t1 _ _ e) (by
      intro z
      rw [List.mem_singleton.mp z, hD] at e
      cases e)
    obtain ⟨cv, eq, ec⟩ := tv.ex
    -- put
    have hmz := t2 _ _ hm
    refine ⟨_, rfl, m, dm, _, rfl, hmz, mk_put, _, rfl, q, _, 0, _, rfl, rfl, SqT.of eq, atI_nat (j := 0) rfl, ?_⟩
    refine ⟨t.txt, t.tr, t.tok, rfl, (by have := txt_len N ok; rw [tsz4] at this; omega), txt_words N ok, tok_ok N ok, (by have := tok_len ok; rw [ksz4] at this; omega), read_tree ok (by decide), fun Hw l ta sw hl el trw => ?_⟩
    have t3 := t2.trans sw
    have ndp := I.nd
    simp only [List.nodup_cons, List.mem_cons, List.not_mem_nil, or_false, not_or, List.nodup_nil, and_true] at ndp
    obtain ⟨⟨p1, p2, p3⟩, ⟨p4, p5⟩, p6, _⟩ := ndp
    have hrl : roots.length ≤ 3 := by rw [I.rl]; omega
    refine ⟨l, _, 0, _, rfl, rfl, SqL.of el, atI_nat (j := 0) rfl, m, dm, rt, wt, .ref cl, _, _, _, _, _, _, _, _, _, rfl, t3 _ _ hm, t3 _ _ I.ert, t3 _ _ I.ewt, p4, (by rw [List.length_map]; omega), (by rw [List.length_map]; omega), fun Hv s fv nv rv wv => ?_⟩
    obtain ⟨dxs, lbs, q1, q2, q3, q4⟩ := nv.ex
    have edu := fv _ _ (t3 _ _ I.edu) (by
      simp only [List.mem_cons, List.not_mem_nil, or_false, not_or]
      exact ⟨Ne.symm p5, Ne.symm p6⟩)
    have eqv := fv _ _ (sw _ _ eq) (by
      simp only [List.mem_cons, List.not_mem_nil, or_false, not_or]
      exact ⟨ne_of (sw _ _ eq) (t3 _ _ I.ert) (by intro z; cases z), ne_of (sw _ _ eq) (t3 _ _ I.ewt) (by intro z; cases z)⟩)
    have hdl : dvs.length ≤ 3 := by
      have := I.dv.len
      rw [List.length_map] at this
      omega
    -- due
    refine ⟨_, rfl, .inl ⟨rfl, _, SqL.of edu⟩, _, rfl, q, _, 1, _, rfl, rfl, SqT.of eqv, atI_nat (j := 1) rfl, du, _, _, rfl, rfl, edu, sl1000 (by omega), ?_⟩
    have qd : q ≠ du := ne_of eqv edu (by intro z; cases z)
    refine ⟨_, rfl, _, rfl, q, _, 2, _, rfl, rfl, SqT.of ((upd_ne qd).trans eqv), atI_nat (j := 2) rfl, _, _, rfl, rfl, ?_⟩
    have fx : Fr [rt, wt, du] Hx (upd Hv du (.lst (dvs ++ [cv]))) := ((Fr.of_same t3).trans (fv.mono (by intro b hb; simp only [List.mem_cons, List.not_mem_nil, or_false] at hb ⊢; rcases hb with rfl | rfl <;> simp))).trans (Fr.put (.inl (by simp)))
    have sn : Hx s = none := free_back (L := []) (Fr.of_same t3) (fun b hb => by cases hb) q1
    have ln : Hx lbs = none := free_back (L := []) (Fr.of_same t3) (fun b hb => by cases hb) q2
    have sdu : s ≠ du := ne_of q3 edu (by intro z; cases z)
    have ldu : lbs ≠ du := fun z => by rw [z, I.edu] at ln; cases ln
    refine ⟨some (.int (0 + (i : Int))), some (.ref q), v7, roots ++ [s], ts ++ [t], dvs ++ [cv], ?_, ?_, by rw [List.length_append, hts] <;> rfl⟩
    · have e : ((LT.turnss ts : Nat) : Int) + ((t.turns : Nat) : Int) = ((LT.turnss (ts ++ [t]) : Nat) : Int) := by
        rw [turnss_snoc]
        omega
      show [some (.ref a), some (.ref L), some (.ref m), some (.int (0 + (i : Int))), some (.ref du), some (V.int (((LT.turnss ts : Nat) : Int) + ((t.turns : Nat) : Int))), some (.ref q), v7, none, none] = _
      rw [e]
    · refine I.step (N := newp Hz Hw) (dx := dxs) (lb := lbs) (ta := ta) fx sn ln ((upd_ne sdu).trans q3) ((upd_ne ldu).trans q4) ?_ ?_ upd_same trw ?_ ?_ ok
      · rw [upd_ne p5]
        exact rv
      · rw [upd_ne p6]
        exact wv
      · intro b o e
        obtain ⟨h1, h2⟩ := mask_some e
        have hbz : Hz b = none := by
          cases z : Hz b with
          | none => rfl
          | some u => exact (h1 (by rw [z]; simp)).elim
        have hbx : Hx b = none := free_back (L := []) (Fr.of_same t2) (fun b hb => by cases hb) hbz
        have n1 : b ≠ rt := fun z => by rw [z, I.ert] at hbx; cases hbx
        have n2 : b ≠ wt := fun z => by rw [z, I.ewt] at hbx; cases hbx
        have n3 : b ≠ du := fun z => by rw [z, I.edu] at hbx; cases hbx
        refine ⟨hbx, ?_, fun z => by rw [z, q1] at h2; cases h2⟩
        rw [upd_ne n3]
        exact fv _ _ h2 (by simp [n1, n2])
      · refine ec.monoT fun b xs e => ?_
        have e2 := sw _ _ e
        have e3 := fv _ _ e2 (by
          simp only [List.mem_cons, List.not_mem_nil, or_false, not_or]
          exact ⟨ne_of e2 (t3 _ _ I.ert) (by intro z; cases z), ne_of e2 (t3 _ _ I.ewt) (by intro z; cases z)⟩)
        rw [upd_ne (ne_of e3 edu (by intro z; cases z))]
        exact e3
  · rintro σ Hx ⟨v3, v6, v7, roots, ts, dvs, rfl, I, hts⟩
    have hts3 : ts.length ≤ 3 := by omega
    obtain ⟨W, gs, edu⟩ := I.work N hw0 hw1
    have hok : ∀ t ∈ ts, LOk nm 4 t := fun t ht => by
      obtain ⟨j, hj, e⟩ := List.mem_iff_getElem.mp ht
      obtain ⟨_, o⟩ := I.op j (roots[j]'(by rw [I.rl]; exact hj)) t (List.getElem?_eq_getElem _) (by rw [List.getElem?_eq_getElem hj, e])
      exact o
    obtain ⟨ew, hw⟩ := wsum_zip_le I.rl hts3 hok
    have hd : DLe 10 (.tup (ts.map LT.core)) := by
      unfold DLe
      refine ⟨by rw [List.length_map]; omega, fun d hd => ?_⟩
      obtain ⟨t, ht, e⟩ := List.mem_map.mp hd
      rw [← e]
      exact core_dle (hok t ht)
    -- make
    refine ⟨_, rfl, m, cl, ak, rt, wt, w0, w1, [], nm, _, roots, ts, rfl, W, by omega, by simp, fun H8 wt8 ys8 I8 s8 l8 => ?_⟩
    show Ends.nx _ (List.set _ 8 (some (V.int (wsum (roots.zip ts) : Nat)))) _
    rw [ew]
    have sf8 : Same H1 H8 := fun b o e => mask_sub _ _ (s8 _ _ (gs _ _ (I.sb b o e)))
    have edu8 : H8 du = some (.lst dvs) := mask_sub _ _ (s8 _ _ edu)
    have dv8 : All2 (DatAt H8) dvs (ts.map LT.core) := I.dv.imp fun x y h => h.mono (Sn.of fun b o e => mask_sub _ _ (s8 _ _ (gs _ _ e)))
    -- the number of turns
    refine ⟨_, rfl, _, rfl, _, rfl, ?_⟩
    refine ifF rfl ?_
    refine ⟨_, rfl, _, rfl, rfl, _, rfl, ?_⟩
    refine ifF ?_ ?_
    · rw [decide_eq_true rfl] <;> rfl
    -- the outcome
    have rt8 : ∀ H', Same H8 H' → H' rt = some (.lst (roots.map V.ref)) := fun H' s => s _ _ (mask_sub _ _ I8.ert)
    have cp8 : ∀ H', Same H8 H' → ∀ (j : Nat) r t, roots[j]? = some r → ts[j]? = some t → Comp K H' [] r t ∧ LOk nm 4 t := fun H' s j r t h1 h2 => ⟨(I8.cp j r t h1 h2).1.step (fun b o e => s _ _ (mask_sub _ _ e)) (fun _ _ h => by cases h), (I8.cp j r t h1 h2).2⟩
    refine ⟨_, rfl, m, cl, ak, rt, wt8, w0, w1, ys8, nm, roots, ts, rfl, I8.M, rt8 H8 (fun b o e => e), I.rl, by omega, cp8 H8 (fun b o e => e), fun H9 pf9 vs9 s9 hp9 ep9 av9 => ?_⟩
    have edu9 := s9 _ _ edu8
    have dv9 := dv8.imp fun x y h => h.mono (Sn.of s9)
    refine ⟨_, rfl, _, rfl, pf9, du, vs9, dvs, _, rfl, ep9, edu9, av9, dv9, hd, fun H10 s10 => ?_⟩
    refine ⟨_, rfl, ?_⟩
    refine ifF rfl ?_
    have ep10 := s10 _ _ ep9
    -- a seven is put
    have hv9 : vs9.length ≤ 3 := by
      have := av9.len
      rw [List.length_map] at this
      omega
    refine ⟨_, rfl, .inl ⟨rfl, _, SqL.of ep10⟩, pf9, _, _, rfl, rfl, ep10, sl1000 (by omega), ?_⟩
    have s11 : Same H8 (upd H10 pf9 (.lst (vs9 ++ [.int 7]))) := fun b o e => by
      rw [upd_ne (ne_of_none e hp9)]
      exact s10 _ _ (s9 _ _ e)
    show Ends.nx _ _ (upd H10 pf9 (.lst (vs9 ++ [.int 7])))
    generalize upd H10 pf9 (.lst (vs9 ++ [.int 7])) = H11 at s11
    -- a turn with nothing to do
    obtain ⟨I11, _⟩ := I8.same s11
    refine ⟨_, rfl, _, rfl, a, ns, 40, rfl, (sf8.trans s11).seq hs1, by decide, fun c2 => ⟨_, _, rfl, rfl, (show (0 : Int) < 1000 by decide), m, cl, ak, rt, wt8, w0, w1, ys8, _, rfl, I11.M, .inl ⟨I11.ewt, fun H12 s12 => ?_⟩⟩⟩
    obtain ⟨I12, _⟩ := I11.same s12
    have hy8 : ys8.length ≤ 80000 := by
      have e0 : ([] : List V).length = 0 := rfl
      omega
    have sf12 := s11.trans s12
    refine ⟨_, rfl, m, cl, ak, rt, wt8, w0, w1, ys8, nm, [], roots, ts, rfl, I12, (by show (0 : Nat) ≤ 3000; omega), hy8, fun H13 wt13 ys13 I13 s13 l13 => ?_⟩
    refine ⟨rfl, true, ?_, ?_⟩
    · rfl
    rw [if_pos rfl]
    have sF : Same (frz m ak [] H8) (frz m ak [] H13) := fun b o e => s13 _ _ ((I11.same s12).2 _ _ ((I8.same s11).2 _ _ e))
    have edu13 : H13 du = some (.lst dvs) := mask_sub _ _ (sF _ _ (s8 _ _ edu))
    have dv13 : All2 (DatAt H13) dvs (ts.map LT.core) := I.dv.imp fun x y h => h.mono (Sn.of fun b o e => mask_sub _ _ (sF _ _ (s8 _ _ (gs _ _ e))))
    have cp13 : ∀ (j : Nat) r t, roots[j]? = some r → ts[j]? = some t → Comp K H13 [] r t ∧ LOk nm 4 t := fun j r t h1 h2 => ⟨(I13.cp j r t h1 h2).1.step (fun b o e => mask_sub _ _ e) (fun _ _ h => by cases h), (I13.cp j r t h1 h2).2⟩
    refine ⟨_, rfl, m, cl, ak, rt, wt13, w0, w1, ys13, nm, roots, ts, rfl, I13.M, mask_sub _ _ I13.ert, I13.rl, by omega, cp13, fun H14 p14 vs14 s14 hp14 ep14 av14 => ?_⟩
    refine ⟨_, rfl, p14, du, vs14, dvs, _, rfl, ep14, s14 _ _ edu13, av14, dv13.imp fun x y h => h.mono (Sn.of s14), hd, fun H15 s15 => ?_⟩
    exact k H15
end
end Mh
namespace Mh
open PySem PySem.Spec PyProof.Rows L2
theorem law_facts {P : Program} {w : World} {K : PySem.W.Frag} {h : Heap} {mg : Str → Option Value} {f : Addr} (X : K.In h) (G : h.Ns mainGlobals mg) (hfa : mg ("law" : Str) = some (.ref f)) (c : He.SaysD fa fn K) (e : exB K = true) :
    ∃ fd : FuncData, (∀ (s : Shared) (v : Value), BindsTo s fd ⟨[v], []⟩ [("_law_script", v)]) ∧ ∀ base : Heap, K.In base → base.Ns mainGlobals mg → FnOk P w K mg base CX0 13 f fd ["_law_script"] (spLaw K) := by
  have T : Txt K mg := ⟨c, e, h, X, G⟩
  obtain ⟨fd, F⟩ := T.f_law
  have ef := hfa.symm.trans T.g_law
  cases ef
  have b := FunD.bindsA (ps := ["_law_script"]) F fun _ _ _ _ _ _ us hl => match us, hl with | [_], _ => rfl
  exact ⟨fd, fun s v => b s [v] rfl, fun base _ _ => ok_law T F⟩
end Mh
open PySem PySem.W PySem.Calls PyProof.Rows
theorem PySem.Challenge.cw_macrohouse_k41_numbers_names_calls_holds : PySem.Challenge.rw_macrohouse_k41_numbers_names_calls.Holds := by
  w_on; o_law
  refine HandSHeadRun.head_any (r := OpenLaw.row PySem.Challenge.rw_macrohouse_k41_numbers_names_calls) (q := Mh.qv) (H := Mh.hookM) (ob := Mh.obM) (M := 8000) (loose := Mh.lo) (d := HandSHeadRun.topDef (OpenLaw.row PySem.Challenge.rw_macrohouse_k41_numbers_names_calls).prog 91) (kwd := []) Mh.obM_eq
    (by kernel_rfl) (fun s => by kernel_rfl) Mh.run1 (by kernel_rfl) (by kernel_rfl) (by kernel_rfl) (by rfl) (by first | assumption | decide +kernel) (by decide +kernel) ⟨rfl, rfl, rfl, rfl, rfl, by decide +kernel⟩ ?hw ?hc
  case hw => w_witness2
  case hc =>
    refine L2.walk_ofE (l := PySem.Challenge.rw_macrohouse_k41_numbers_names_calls) (n := 63) (k := 13) (x := "_law_script") (CX := L2.CX0) rfl (by decide) (by kernel_rfl) ⟨rfl, by decide, by decide⟩ ?F (fun _ _ _ _ z => z)
    intro w mg fa h Y G hmg0
    obtain ⟨K, KX, c, e⟩ := Y
    have hmg : mg ("law" : PySem.Str) = some (.ref fa) := by
      have e : (HandSHeadRun.topDef (OpenLaw.row PySem.Challenge.rw_macrohouse_k41_numbers_names_calls).prog 91).name = ("law" : PySem.Str) := by kernel_rfl
      rw [← e]
      exact hmg0
    obtain ⟨fd, hb, hF⟩ := Mh.law_facts (P := (PySem.Challenge.rw_macrohouse_k41_numbers_names_calls).prog) (w := w) KX G hmg c e
    exact ⟨K, fd, Mh.spLaw K, KX, hb, fun H a ns hl _ hS => ⟨a, ns, rfl, hS, fun _ => rfl⟩, hF⟩
