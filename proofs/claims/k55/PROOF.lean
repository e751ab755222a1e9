import PyProof.Rows.All
import Wide.All
import OpenK.AllK
import Wide.FinOn
import HandS.HeadHook2
import HandS.ExcField
import HandS.WordsExc
import KE.KExcSuper
import KE.KIsAll
import KE.KTryMore
import KE.KNest
import HandS.Lambda
import HandS.Head2
import HandS.HeadEnd
import HandS.EndBits
import HandS.ForMost
import HandS.Defaults
import KE.KDictKeyed
import HandS.SetFor
import HandS.Strs
import HandS.ExcInit
import HandS.ExcIs
import KE.SortData
import PyProof.EqKinds
import PyProof.NeKinds
import PyProof.FactsAll.dict
import HandS.IsInst
import HandS.TupAny
import HandS.TupMul
import KE.KDictPairs
import HandS.Exc
import HandS.DictComp
import HandS.TryOnly
import KE.GoesEnum
import KE.GoesZip
import KE.GoesMore
import HandS.Zip
import HandS.Small
import HandS.SetKeys
import HandS.More
import HandS.TupLen
import HandS.SortInts
import HandS.Conv
import HandS.Star
import KE.KDictList
import HandS.ExcValue
import KE.KExcIs
import HandS.HotCalls
import HandS.TryMany
import HandS.EndTab
import PyProof.StrLawsIn
import PySem.Challenge.RW_instances_k55_lines_refused
set_option Elab.async false
set_option linter.all false
set_option maxRecDepth 100000
set_option maxHeartbeats 4000000
/-! XD0: exception classes: what is asked of them, and of the head (no proofs here: it stands ahead of the head). -/
namespace RX
open PySem PySem.Spec PyProof.Rows L2
/-- a class that isinstance is asked for -/
inductive XT where
  | own (C : Str) | bt (n : String)
  deriving DecidableEq
/-- what a def tells that is called with a caught exception -/
inductive HV where
  | bl (b : Bool) | bls (bs : List Bool)
  deriving DecidableEq
mutual
/-- what is told of an exception that is caught -/
inductive HE where
  | var (i : Nat) | fld (f : Str) | str (x : Str) | int (i : Int)
  | repr (a : HE) | cat (a b : HE) | isi (d : XT) (tab : List (Str × Bool)) | ifi (d : XT) (tab : List (Str × Bool)) (a b : HE)
  | ix (a b : HE) | lst (es : HEs) | tup (es : HEs) | hcall (g : Str) | and (a b : HE) | nev
  deriving DecidableEq
inductive HEs where
  | nil | cons (e : HE) (es : HEs)
  deriving DecidableEq
end
/-- how a def goes on that calls what it got within try: return [w, act()] / act(); return z -/
inductive HF where
  | told (w : Str) | drop (z : Option Str)
  deriving DecidableEq
/-- a clause of it: its class, the classes that it takes, its name's slot, what it returns -/
structure HCl where
  Cn : Str
  subs : List Str
  on : Option Nat
  h : HE
  deriving DecidableEq
/-- such a def: its parameter, the classes of exceptions it may meet, its clauses -/
structure HD where
  a : Str
  N : List Str
  all : List Str
  cl : List HCl
  fm : HF
  deriving DecidableEq
/-- what is known of exception classes: those with a field and their field; those without an __init__; isinstance; except clauses; defs that are called with a caught exception -/
structure Xt where
  xc : List (Str × Str)
  x0 : List Str
  is : List ((Str × XT) × Bool)
  ex : List ((Str × Str) × Bool)
  hot : List (Str × List (Str × HV))
  sm : Bool
  hds : List (Str × HD)
  lams : List Str
  gts : List (Str × List Str)
def Xt.none : Xt := ⟨[], [], [], [], [], false, [], [], []⟩
/-- the dict of the modules is known -/
def smB (K : PySem.W.Frag) : Bool := match K.lookup sysModules with
  | some o => decide (o.cls = .type "dict")
  | none => false
def xtV (K : PySem.W.Frag) : XT → Value
  | .own C => .ref (He.ga K C)
  | .bt n => .type n
def xFields : List Str := ["given", "index", "spot"]
def eqV (a : Option (Option Value)) (b : Option (Option Value)) : Bool := decide (a = b)
/-- the class's object is one over ValueError -/
def clsObj (o : Obj) (c : Addr) : Bool := match o.cls, o.data, o.slots.toList with
  | .type t, .cls cd, [_, _, _, _, some (.builtin n), _] => (match cd.mro with
    | .ref d :: bm => decide (t = "type") && (decide (d = c) && (decide (n = "ValueError.__new__") && (!cd.hasDel && (cd.hasDict && HandSPX.refsVE bm))))
    | _ => false)
  | _, _, _ => false
def xbB (K : PySem.W.Frag) (c : Addr) : Bool := (match K.lookup c with
  | some o => clsObj o c
  | none => false) && (eqV (PySem.W.findIn K (.ref c) "__setattr__") (some (some (.builtin "object.__setattr__"))) && (decide (PySem.W.subIn K (.ref c) (.type "BaseException") = some true) && (decide (PySem.W.typeIn K (.ref c) = some (.type "type")) && (PySem.W.keepIn K (.ref c) &&
  (xfB K c && ((PySem.W.clsIn K c).isSome && (eqV (PySem.W.findIn K (.ref c) "__class__") (some (some (.builtin "object.__class__"))) && (eqV (PySem.W.specialIn K (.builtin "object.__class__") "__get__") (some (some (.builtin "getset_descriptor.__get__"))) &&
  (decide (PySem.W.takesIn K (.builtin "object.__class__") = some true) && decide (PySem.W.mroIn K c (.type "object") = some true))))))))))
/-- the class's __init__: its name, parameters, body, scope, .. the names of what it captures -/
abbrev FnX2 : Type := Option (Str × Str × Arguments × FuncBody × Scope × Addr × List Str × Addr)
def iniAd (K : PySem.W.Frag) (C : Str) : Addr := He.ma K (He.ga K C) "__init__"
def fnX2 (K : PySem.W.Frag) (C : Str) : FnX2 := match K.lookup (iniAd K C) with
  | some o => (match o.data with
    | .func fd => some (fd.name, fd.qualname, fd.params, fd.body, fd.scope, fd.globals, fd.closure.map (·.1), fd.builtins)
    | _ => none)
  | none => none
def valX2 (C : Str) (st : Stmt) : FnX2 := some ("__init__", C ++ ".__init__", defArgs st, .stmts (defBody st), defScope st, mainGlobals, ["__class__"], builtinsNs)
/-- what is looked at of it -/
def iniB (K : PySem.W.Frag) (file : Str) (C f : Str) : Bool := match K.lookup (iniAd K C) with
  | some o => (match o.data with
    | .func fd => (match fd.code, fd.closure, fd.defaults with
      | .ref cda, [(_, cc)], .none => PySem.W.codeIn K (.ref cda) (C ++ ".__init__") && ((match K.lookup cc with
          | some o => (match o.data with
            | .cell (some (.ref d)) => decide (d = He.ga K C)
            | _ => false)
          | none => false) && (match K.lookup cda with
          | some o => (match o.data with
            | .fields vs => (match (vs[2]? : Option Value) with
              | some (.str z _) => file == z
              | _ => false)
            | _ => false)
          | none => false))
      | _, _, _ => false)
    | _ => false)
  | none => false
def xcB (K : PySem.W.Frag) (file : Str) (C f : Str) : Bool := xbB K (He.ga K C) && (decide (f ∈ xFields) && (eqV (PySem.W.findIn K (.ref (He.ga K C)) f) (some none) && (eqV (PySem.W.findIn K (.ref (He.ga K C)) "__init__") (some (some (.ref (iniAd K C)))) && (decide (PySem.W.typeIn K (.ref (iniAd K C)) = some (.type "function")) &&
  (iniB K file C f && (eqV (PySem.W.ks_superIn K (He.ga K C) (He.ga K C) "__init__") (some (some (.builtin "ValueError.__init__"))) && (eqV (PySem.W.nsIn K cStatics "thirdparty.any") (some none) && (decide (PySem.W.subIn K (.ref (He.ga K C)) (.type "ValueError") = some true) && decide (PySem.W.mroIn K (He.ga K C) (.ref (He.ga K C)) = some true)))))))))
/-- the code object of the module's def f, the table of code objects that its code makes -/
def codA (K : PySem.W.Frag) (f : Str) : Addr := match K.lookup (He.ga K f) with
  | some o => (match o.data with
    | .func fd => (match fd.code with
      | .ref c => c
      | _ => mainGlobals)
    | _ => mainGlobals)
  | none => mainGlobals
def tabA (K : PySem.W.Frag) (f : Str) : Addr := match K.lookup (codA K f) with
  | some o => (match o.data with
    | .fields (vs : Array Value) => (match (vs[11]? : Option Value) with
      | some (.ref P) => P
      | _ => mainGlobals)
    | _ => mainGlobals)
  | none => mainGlobals
/-- the name of a lambda in the def f -/
def lamQ (f : Str) : Str := (f ++ (".<locals>." : Str)) ++ ("<lambda>" : Str)
/-- the table of code objects of the def T is known -/
def lamB (K : PySem.W.Frag) (T : Str) : Bool := decide (PySem.W.tabIn K T = some (codA K T, tabA K T)) && (K.lookup (tabA K T)).isNone
def strsB : List Str → List Value → Bool
  | [], [] => true
  | z :: zs, .str x _ :: vs => decide (x = z) && strsB zs vs
  | _, _ => false
/-- the module's name x stands for a tuple of texts -/
def tupB (K : PySem.W.Frag) (x : Str) (zs : List Str) : Bool := decide (zs.length ≤ 1000) && (match PySem.W.nsIn K mainGlobals x with
  | some (some (.ref a)) => (match K.lookup a with
    | some o => decide (o.cls = .type "tuple") && (o.dict.isNone && (match o.data with
      | .seq vs _ => strsB zs vs.toList
      | _ => false))
    | none => false)
  | _ => false)
/-- all of it -/
def xtB (K : PySem.W.Frag) (file : Str) (x : Xt) : Bool := (!x.sm || smB K) && ((x.lams.all (lamB K) && (decide ((x.lams.map (tabA K)).Nodup) && x.gts.all fun p => tupB K p.1 p.2)) && ((x.xc.all fun p => xcB K file p.1 p.2 && eqV (PySem.W.nsIn K mainGlobals p.1) (some (some (.ref (He.ga K p.1))))) &&
  ((x.x0.all fun C => xbB K (He.ga K C) && (PySem.W.excIn K (He.ga K C) He.veBase "ValueError.__new__" && eqV (PySem.W.nsIn K mainGlobals C) (some (some (.ref (He.ga K C)))))) &&
  ((x.is.all fun p => (decide (p.1.1 ∈ x.xc.map (·.1)) || decide (p.1.1 ∈ x.x0)) && (decide (PySem.W.kitOne K (.ref (He.ga K p.1.1)) (xtV K p.1.2) = some p.2) && (match p.1.2 with
    | .own D => eqV (PySem.W.nsIn K mainGlobals D) (some (some (.ref (He.ga K D))))
    | .bt n => eqV (PySem.W.nsIn K mainGlobals n) (some none)))) &&
  (x.ex.all fun p => (decide (p.1.1 ∈ x.xc.map (·.1)) || decide (p.1.1 ∈ x.x0)) && (decide (PySem.W.exmOne K (.ref (He.ga K p.1.1)) (.ref (He.ga K p.1.2)) = some p.2) && eqV (PySem.W.nsIn K mainGlobals p.1.2) (some (some (.ref (He.ga K p.1.2))))))))))
end RX
set_option Elab.async false
set_option linter.all false
set_option maxRecDepth 1000000
set_option maxHeartbeats 0
/-! the head of law k55, printed by gen.py --head -/
namespace RX.Lawk55
open PySem PySem.Spec PyProof.Rows L2
abbrev pw : Program := PySem.Challenge.pw_instances_k55_lines_refused
def top (i : Nat) : Stmt := pw.main.body.getD i (.Pass ⟨0, 0, 0, 0⟩)
def meth (s : Stmt) (j : Nat) : Stmt := match s with
  | .ClassDef (body := b) .. => b.getD j (.Pass ⟨0, 0, 0, 0⟩)
  | _ => .Pass ⟨0, 0, 0, 0⟩
def fas0 : List He.Fa := [.glo "is_name", .glo "is_run_sign", .glo "words_of", .glo "rows_in", .meth "Words" "__init__", .meth "Words" "word", .meth "Words" "take", .meth "Words" "choose", .meth "Words" "fresh", .meth "Words" "end", .meth "Reader" "__init__", .meth "Reader" "has_room", .meth "Reader" "read", .meth "Reader" "read_named", .meth "Reader" "kinds_from", .glo "reader_of", .glo "with_row", .glo "said_by", .glo "fresh_console", .glo "said", .glo "told_all", .glo "_law_well", .glo "_law_draw", .glo "_law_one", .glo "_law_odd_thing", .glo "_law_right", .glo "law", .glo "Words", .cls "Words", .glo "Reader", .cls "Reader", .mkr "Words", .mkr "Reader", .noat "Reader" "kinds", .noat "Reader" "makers", .noat "Reader" "templates", .noat "Reader" "units", .noat "Words" "at", .noat "Words" "row", .noat "Words" "words"]
def fas1 : List He.Fa := [.str "FIGURES" "0123456789", .str "LETTERS" "abcdefghijklmnopqrstuvwxyz", .int "MOST_ARGS" 3, .int "MOST_CASES" 10, .int "MOST_DEFINITIONS" 12, .int "MOST_EARLIER" 20, .int "MOST_KINDS" 8, .int "MOST_LINES" 60, .int "MOST_MAKERS" 24, .int "MOST_NAME" 12, .int "MOST_PARAMS_tablework" 4, .int "MOST_ROOTS" 10, .int "MOST_UNITS" 6, .str "NOT_UNDERSTOOD" "not understood", .free "len", .free "int", .free "str", .free "tuple", .free "list", .free "abs", .free "all", .free "any", .free "sum", .free "repr", .free "min", .free "max", .free "divmod", .free "dict", .free "range", .free "enumerate", .free "zip", .free "isinstance", .free "bool", .free "set", .free "sorted", .free "super", .glo "_law_heard"]
def fas : List He.Fa := fas0 ++ fas1
def fns0 : List He.DefD := [⟨("is_name", none), "is_name", "is_name", defArgs (top 12), defBody (top 12), defScope (top 12), [], []⟩, ⟨("is_run_sign", none), "is_run_sign", "is_run_sign", defArgs (top 27), defBody (top 27), defScope (top 27), [], []⟩, ⟨("words_of", none), "words_of", "words_of", defArgs (top 28), defBody (top 28), defScope (top 28), [], []⟩, ⟨("rows_in", none), "rows_in", "rows_in", defArgs (top 29), defBody (top 29), defScope (top 29), [], []⟩, ⟨("Words", some "__init__"), "__init__", "Words.__init__", defArgs (meth (top 31) 0), defBody (meth (top 31) 0), defScope (meth (top 31) 0), [], []⟩, ⟨("Words", some "word"), "word", "Words.word", defArgs (meth (top 31) 1), defBody (meth (top 31) 1), defScope (meth (top 31) 1), [], []⟩, ⟨("Words", some "take"), "take", "Words.take", defArgs (meth (top 31) 3), defBody (meth (top 31) 3), defScope (meth (top 31) 3), [], []⟩, ⟨("Words", some "choose"), "choose", "Words.choose", defArgs (meth (top 31) 4), defBody (meth (top 31) 4), defScope (meth (top 31) 4), [], []⟩, ⟨("Words", some "fresh"), "fresh", "Words.fresh", defArgs (meth (top 31) 5), defBody (meth (top 31) 5), defScope (meth (top 31) 5), [], []⟩, ⟨("Words", some "end"), "end", "Words.end", defArgs (meth (top 31) 7), defBody (meth (top 31) 7), defScope (meth (top 31) 7), [], []⟩, ⟨("Reader", some "__init__"), "__init__", "Reader.__init__", defArgs (meth (top 180) 0), defBody (meth (top 180) 0), defScope (meth (top 180) 0), [], []⟩, ⟨("Reader", some "has_room"), "has_room", "Reader.has_room", defArgs (meth (top 180) 4), defBody (meth (top 180) 4), defScope (meth (top 180) 4), [], []⟩, ⟨("Reader", some "read"), "read", "Reader.read", defArgs (meth (top 180) 5), defBody (meth (top 180) 5), defScope (meth (top 180) 5), [], []⟩, ⟨("Reader", some "read_named"), "read_named", "Reader.read_named", defArgs (meth (top 180) 6), defBody (meth (top 180) 6), defScope (meth (top 180) 6), [], []⟩, ⟨("Reader", some "kinds_from"), "kinds_from", "Reader.kinds_from", defArgs (meth (top 180) 7), defBody (meth (top 180) 7), defScope (meth (top 180) 7), [], []⟩, ⟨("reader_of", none), "reader_of", "reader_of", defArgs (top 181), defBody (top 181), defScope (top 181), [], []⟩, ⟨("with_row", none), "with_row", "with_row", defArgs (top 187), defBody (top 187), defScope (top 187), [], []⟩, ⟨("said_by", none), "said_by", "said_by", defArgs (top 191), defBody (top 191), defScope (top 191), [], []⟩, ⟨("fresh_console", none), "fresh_console", "fresh_console", defArgs (top 194), defBody (top 194), defScope (top 194), [], []⟩, ⟨("said", none), "said", "said", defArgs (top 195), defBody (top 195), defScope (top 195), [], []⟩, ⟨("told_all", none), "told_all", "told_all", defArgs (top 196), defBody (top 196), defScope (top 196), [], []⟩, ⟨("_law_well", none), "_law_well", "_law_well", defArgs (top 198), defBody (top 198), defScope (top 198), [], []⟩, ⟨("_law_draw", none), "_law_draw", "_law_draw", defArgs (top 199), defBody (top 199), defScope (top 199), [], []⟩, ⟨("_law_one", none), "_law_one", "_law_one", defArgs (top 200), defBody (top 200), defScope (top 200), [], []⟩, ⟨("_law_odd_thing", none), "_law_odd_thing", "_law_odd_thing", defArgs (top 201), defBody (top 201), defScope (top 201), [], []⟩, ⟨("_law_right", none), "_law_right", "_law_right", defArgs (top 203), defBody (top 203), defScope (top 203), [], []⟩, ⟨("law", none), "law", "law", defArgs (top 204), defBody (top 204), defScope (top 204), [], []⟩, ⟨("_law_heard", none), "_law_heard", "_law_heard", defArgs (top 202), defBody (top 202), defScope (top 202), [], []⟩]
def fns : List He.DefD := fns0
def loose0 : List Str := ["__name__", "LETTERS", "FIGURES", "MOST_NAME", "MOST_KINDS", "MOST_MAKERS", "MOST_ARGS", "VARIABLE", "STRANGER", "USE", "is_whole", "is_between", "is_name", "are_unlike", "Signs", "is_kind_pair", "is_kinds_row", "is_maker", "made_kinds", "is_signature_by", "TemplateError", "InvalidText", "InvalidLines", "MOST_FIGURES", "MOST_NUMBER"]
def loose1 : List Str := ["is_run_sign", "words_of", "rows_in", "is_number", "Words", "MOST_PARAMS_bodyread", "IN_PATTERNS", "IN_BODIES", "IN_USES", "Terms", "patterns_from", "body_from", "use_from", "is_variable", "args_of", "size_of", "depth_of", "parts_of", "variables_in", "put", "put_all", "named_by", "apart", "is_stranger", "maker_args"]
def loose2 : List Str := ["is_tuple_headed", "is_term_by", "is_pattern", "are_patterns_by", "kinds_told", "inner_uses", "used_by", "reached_by", "groups_by", "groups_found", "group_of", "is_carried", "carried_by", "looked_by", "looked_of", "staying_by", "can_be_dealt", "is_use_formed", "unformed_by", "levels_by", "levels_found", "STRANGE", "ENDING", "name_label", "term_label"]
def loose3 : List Str := ["label_by", "fits_one", "fitted", "is_below", "led", "stands_in", "unite", "resolved", "united", "meet_by", "images_by", "split_by", "leaf_of", "stands_of", "asked_by", "wish_of", "Cover", "cover_by", "Unlike", "least_terms", "images_of", "instance_by", "witness_by", "MOST_DEFINITIONS", "MOST_CASES"]
def loose4 : List Str := ["MOST_PARAMS_tablework", "Table", "is_definition_head", "is_inner_use", "is_body", "is_case", "is_table_by", "is_use_by", "barring", "verdict_among", "verdict_by", "rows_of", "goals_of", "fault_by", "chosen_by", "closing_by", "Road", "begun_by", "kinds_of", "chosen_on", "gone_on", "closed_by", "round_on", "use_with", "Search"]
def loose5 : List Str := ["roads_by", "MOST_SIZE", "MOST_DEPTH", "MOST_USES", "is_great", "steps_of", "Frame", "Run", "run_among", "whole_of", "run_by", "term_text", "list_text", "terms_text", "use_text", "MOST_UNITS", "MOST_ROOTS", "is_seen", "is_unit", "is_program_by", "seen_by", "needed_by", "pairs_of", "unlike_by", "found_by"]
def loose6 : List Str := ["clash_by", "link_by", "ASKS", "OF_USES", "OF_NAMES", "row_text", "found_text", "run_text", "use_answer", "ending_answer", "link_answer", "Asking", "SORTS", "Template", "Unit", "Reader", "reader_of", "program_from", "MOST_EARLIER", "ALONE", "NOT_UNDERSTOOD", "with_row", "gone_back", "shown", "asked"]
def loose7 : List Str := ["said_by", "MOST_LINES", "fresh_console", "said", "told_all", "_law_well", "_law_draw", "_law_one", "_law_odd_thing", "_law_heard", "_law_right"]
def loose : List Str := loose0 ++ loose1 ++ loose2 ++ loose3 ++ loose4 ++ loose5 ++ loose6 ++ loose7
def xcL : List (Str × Str) := [("InvalidText", "index"), ("InvalidLines", "index")]
def xisL0 : List ((Str × RX.XT) × Bool) := [(("InvalidLines", RX.XT.own "TemplateError"), true), (("InvalidText", RX.XT.own "TemplateError"), true), (("TemplateError", RX.XT.own "TemplateError"), true)]
def xisL : List ((Str × RX.XT) × Bool) := xisL0
def xexL0 : List ((Str × Str) × Bool) := [(("InvalidLines", "InvalidLines"), true), (("InvalidLines", "InvalidText"), false), (("InvalidLines", "TemplateError"), true), (("InvalidText", "InvalidLines"), false), (("InvalidText", "InvalidText"), true), (("InvalidText", "TemplateError"), true), (("TemplateError", "InvalidLines"), false), (("TemplateError", "InvalidText"), false), (("TemplateError", "TemplateError"), true)]
def xexL : List ((Str × Str) × Bool) := xexL0
def tb_TemplateError : List (Str × Bool) := [("TemplateError", true), ("InvalidText", true), ("InvalidLines", true)]
def hd_law_heard : RX.HD := ⟨"act", ["act", "e"], ["TemplateError", "InvalidText", "InvalidLines"], [⟨"InvalidLines", ["InvalidLines"], some 1, (.cat (.lst (.cons (.str "lines") (.cons (.repr (.fld "index")) .nil))) (.ifi (RX.XT.own "TemplateError") tb_TemplateError (.lst .nil) (.lst (.cons (.str "no base") .nil))))⟩, ⟨"TemplateError", ["TemplateError", "InvalidText", "InvalidLines"], none, (.lst (.cons (.str "another") .nil))⟩], (.told "told")⟩
def gtL : List (Str × List Str) := [("ALONE", ["back", "rows", "show"]), ("ASKS", ["choose", "run", "count", "label", "fault", "dead", "closing", "groups", "ending", "needed", "unlike", "link"]), ("SORTS", ["kind", "make", "template", "case", "unit", "see", "root"])]
def xt0 : RX.Xt := ⟨xcL, ["TemplateError"], xisL, xexL, [], true, [], [], gtL⟩
def xtL : RX.Xt := ⟨xcL, ["TemplateError"], xisL, xexL, [], true, [("_law_heard", hd_law_heard)], ["_law_right"], gtL⟩
def xsts : List Stmt := [meth (top 22) 0, meth (top 23) 0]
abbrev R : PySem.W.OpenRow := PySem.W.OpenLaw.row PySem.Challenge.rw_instances_k55_lines_refused
def need : List Str := ["is_name", "is_run_sign", "words_of", "rows_in", "reader_of", "with_row", "said_by", "fresh_console", "said", "told_all", "_law_well", "_law_draw", "_law_one", "_law_odd_thing", "_law_right", "law", "Words", "Reader", "TemplateError", "InvalidText", "InvalidLines", "_law_heard", "ALONE", "ASKS", "SORTS"]
def keyB (x : Str) (e : DictEntry) : Bool := match e.key with
  | .str y _ => decide (y = x)
  | _ => false
/-- what the module's needed names stand for, their code, the classes' own names and their code, what an __init__ captures -/
def refC (o : Obj) : List Addr := match o.data with
  | .func fd => He.refV fd.code ++ He.refV fd.defaults
  | .cls cd => cd.ns :: cd.mro.flatMap He.refV
  | _ => []
def refN (o : Obj) : List Addr := match o.data with
  | .dict es _ => es.toList.flatMap fun e => He.refV e.val
  | _ => []
def refK (o : Obj) : List Addr := match o.data with
  | .func fd => fd.closure.map (·.2)
  | _ => []
def outG (g : Addr → Option Obj) (f : Obj → List Addr) (as : List Addr) : List Addr := as.flatMap fun a => match g a with
  | some o => f o
  | none => []
def refG (o : Obj) : List Addr := match o.data with
  | .dict es _ => need.flatMap fun x => match es.toList.find? (keyB x) with
    | some e => He.refV e.val
    | none => []
  | _ => []
def as1 (g : Addr → Option Obj) : List Addr := outG g refG [mainGlobals]
def as2 (g : Addr → Option Obj) : List Addr := outG g refC (as1 g)
def as3 (g : Addr → Option Obj) : List Addr := outG g refN (as2 g)
def asB (g : Addr → Option Obj) : List Addr := (mainGlobals :: cStatics :: sysModules :: (as1 g ++ (as2 g ++ (as3 g ++ (outG g refC (as3 g) ++ outG g refK (as3 g)))))).eraseDups
abbrev Al : Type := He.AlD × (Bool × List RX.FnX2)
def obX (K : PySem.W.Frag) : Al := (He.obsD fas fns K, RX.xtB K pw.main.file xtL, xcL.map fun p => RX.fnX2 K p.1)
def valX : Al := (He.valD fns, true, (xcL.zip xsts).map fun q => RX.valX2 q.1.1 q.2)
def hk : PySem.W.Hook where
  α := Al
  obs := fun s => obX (He.frG s.heap.get? (asB s.heap.get?))
  val := fun _ => valX
  says := fun _ h => ∃ K : PySem.W.Frag, K.In h ∧ obX K = valX
  of := fun _ _ e => ⟨_, He.frG_in, e⟩
  keeps := fun _ _ _ ⟨K, hK, c⟩ k => ⟨K, PySem.W.Frag.In.keeps hK k, c⟩
def ob (s : PySem.W.SharedT) : Al := obX (He.frG (HandSHeadRun.getT s) (asB (HandSHeadRun.getT s)))
theorem ob_eq (s : PySem.W.SharedT) : ob s = hk.obs s.abs := by
  have e : HandSHeadRun.getT s = s.abs.heap.get? := funext (HandSHeadRun.getT_eq s)
  show obX (He.frG (HandSHeadRun.getT s) (asB (HandSHeadRun.getT s))) = obX (He.frG s.abs.heap.get? (asB s.abs.heap.get?))
  rw [e]
end RX.Lawk55
set_option Elab.async false
set_option linter.all false
set_option maxRecDepth 1000000
set_option maxHeartbeats 0
/-! K55r: the head's run, looked at part by part (each part runs it anew: at once it wants too much memory). -/
namespace RX.Lawk55
open PySem PySem.W PySem.Spec PySem.Calls PyProof.Rows L2 HandSHeadRun
abbrev vw : Program := PySem.W.view R.prog [203, 204]
theorem runC (w : World) (os : OsState) : (endF (stepQ (denQ tabQ) R.prog w) 10000 R.prog w os).map (fun s => seenQ vw loose (importedModules R.prog.main.body) (fun s => xlAt vw [] s && recOk R.toRowW.records s) s.abs) = some (openGood vw loose) := by kernel_rfl
theorem runD (w : World) (os : OsState) : (endF (stepQ (denQ tabQ) R.prog w) 10000 R.prog w os).map (fun s => ob s) = some (hk.val w) := by kernel_rfl
def names1 : List Str := loose.drop 1
def names2 : List Str := ["law"]
theorem runE (w : World) (os : OsState) : (endF (stepQ (denQ tabQ) R.prog w) 10000 R.prog w os).map (fun s => (s.abs.heap.isNs mainGlobals, s.abs.heap.nsKeys mainGlobals)) = some (true, (boot_heap w.params).nsKeys mainGlobals ++ (names1 ++ names2)) := by kernel_rfl
theorem runF (w : World) (os : OsState) : (endF (stepQ (denQ tabQ) R.prog w) 10000 R.prog w os).map (fun s => (gensDone s.abs, laidKept (boot_heap w.params) s.abs.heap)) = some (true, true) := by kernel_rfl
theorem runG (w : World) (os : OsState) : (endF (stepQ (denQ tabQ) R.prog w) 10000 R.prog w os).map (fun s => staticsOk (importedModules R.prog.main.body) (boot_heap w.params) s.abs.heap) = some true := by kernel_rfl
theorem nm1 : (names1 ++ names2).all (fun k => R.prog.boundNames.contains k) = true := by kernel_rfl
theorem nm2 (P : Params) : ((boot_heap P).nsKeys mainGlobals).all (fun k => startupNames.contains k) = true := by kernel_rfl
theorem run_of {p : Program} {w : World} {α : Type} {en : Option SharedT} {ks : List Str} {sq : SharedT → α} {o : SharedT → hk.α} {g : α} {v : hk.α} (hC : en.map sq = some g) (hD : en.map o = some v) (hE : en.map (fun s => (s.abs.heap.isNs mainGlobals, s.abs.heap.nsKeys mainGlobals)) = some (true, (boot_heap w.params).nsKeys mainGlobals ++ ks))
    (hF : en.map (fun s => (gensDone s.abs, laidKept (boot_heap w.params) s.abs.heap)) = some (true, true)) (hG : en.map (fun s => staticsOk (importedModules p.main.body) (boot_heap w.params) s.abs.heap) = some true)
    (n1 : ks.all (fun k => p.boundNames.contains k) = true) (n2 : ((boot_heap w.params).nsKeys mainGlobals).all (fun k => startupNames.contains k) = true) : en.map (fun s => (looksF p (boot_heap w.params) s.abs, sq s, o s)) = some (true, g, v) := by
  obtain ⟨s, rfl, hc⟩ := Option.map_eq_some_iff.mp hC
  have hd : o s = v := Option.some.inj hD
  have he := Prod.mk.inj (Option.some.inj hE)
  have hf := Prod.mk.inj (Option.some.inj hF)
  have hg : staticsOk (importedModules p.main.body) (boot_heap w.params) s.abs.heap = true := Option.some.inj hG
  have hn : namesBound p s.abs.heap = true := by
    unfold namesBound
    rw [he.1, he.2, List.all_append, Bool.true_and, Bool.and_eq_true, List.all_eq_true, List.all_eq_true]
    refine ⟨fun k hk => ?_, fun k hk => ?_⟩
    · rw [List.all_eq_true.mp n2 k hk]
      rfl
    · rw [List.all_eq_true.mp n1 k hk, Bool.or_true]
  have hl : looksF p (boot_heap w.params) s.abs = true := by
    unfold looksF
    rw [hg, hn, hf.1, hf.2]
    rfl
  show some (looksF p (boot_heap w.params) s.abs, sq s, o s) = _
  rw [hl, hc, hd]
theorem run (w : World) : RunEq R vw hk ob 10000 loose w := fun os => run_of (runC w os) (runD w os) (runE w os) (runF w os) (runG w os) nm1 (nm2 w.params)
end RX.Lawk55
set_option Elab.async false
set_option linter.all false
set_option maxRecDepth 1000000
set_option maxHeartbeats 0
/-! K55y: what is asked of the law and of the row (ahead of all else: it wants much memory). -/
namespace RX.Lawk55
open PySem PySem.Spec PyProof.Rows L2 PySem.W PySem.Calls
theorem law_from (h : R.wellSaid = true → R.Holds) : PySem.Challenge.rw_instances_k55_lines_refused.Holds := by
  w_on; o_law
  exact h (by assumption)
theorem y9 : R.prog.tablesWhole = true := by decide +kernel
theorem z_hb : R.prog.bare := ⟨rfl, rfl, rfl, rfl, rfl, y9⟩
abbrev dz : DefRec := HandSHeadRun.topDef R.prog 204
theorem z_e : opening R.prog = plainProg R.prog.main.scope.names := by kernel_rfl
theorem z_f (s) : fenceModules? R.prog s = some s := by kernel_rfl
theorem z_def : defOf vw R.name = some (dz, []) := by kernel_rfl
theorem z_hp : R.prog.theDef R.name = some (dz.params, dz.body, dz.scope) := by kernel_rfl
theorem z_hk : kwWritten? dz.params.kwonlyargs dz.params.kw_defaults = some [] := by kernel_rfl
theorem z_hwr : (!R.writes || R.records.isEmpty) = true := by rfl
theorem z_ok : (chainsOk vw && opensWell R.prog && (frees R.toRowW && R.within.isEmpty)) = true := by decide +kernel
theorem z_hw : R.toRowW.promised := by w_witness2
end RX.Lawk55
set_option Elab.async false
set_option linter.all false
set_option maxRecDepth 100000
set_option maxHeartbeats 4000000
/-! RX1: values as trees, a partial heap of what may change, and how the layer's abstract heap bears them. -/
namespace RX
open PySem PySem.Spec PyProof.Rows L2
abbrev SV := L2.St

/-- a value as a tree: tuples, lists and dicts that are not written any more are trees; ref: what may be written -/
inductive D where
  | non | bl (b : Bool) | int (i : Int) | str (x : Str) | tup (xs : List D) | lst (xs : List D) | dct (ks : List Key) (ds : List D) | ref (a : Addr) | ty (n : String) | wtp (xs : List D) | exc (C f : Str) (x : D) | exn (C : Str)
/-- what may be written -/
inductive DO where
  | lst (ds : List D) | dct (ks : List Key) (ds : List D) | ins (C : Str) (ks : List Str) (ds : List D) | dn (w : World) (kds : List (NestedKey × D)) | tbl (f : Str)
abbrev MM := Addr → Option DO
def up (M : MM) (a : Addr) (o : DO) : MM := fun b => if b = a then some o else M b
def del (M : MM) (a : Addr) : MM := fun b => if b = a then none else M b
def Sub (M M' : MM) : Prop := ∀ a o, M a = some o → M' a = some o
theorem up_same {M : MM} {a : Addr} {o : DO} : up M a o a = some o := by unfold up; rw [if_pos rfl]
theorem up_ne {M : MM} {a b : Addr} {o : DO} (h : b ≠ a) : up M a o b = M b := by unfold up; rw [if_neg h]
theorem up_up {M : MM} {a : Addr} {o u : DO} : up (up M a o) a u = up M a u := by
  funext b; unfold up; split <;> rfl
theorem Sub.refl {M : MM} : Sub M M := fun _ _ h => h
theorem Sub.trans {M M1 M2 : MM} (a : Sub M M1) (b : Sub M1 M2) : Sub M M2 := fun x o h => b x o (a x o h)
theorem Sub.up {M M' : MM} {p : Addr} {o : DO} (s : Sub M M') (h : M p = none) : Sub M (up M' p o) := fun a u e => by
  have : a ≠ p := fun z => by rw [z, h] at e; cases e
  rw [up_ne this]; exact s a u e
theorem Sub.upd {M M' : MM} {p : Addr} {o : DO} (s : Sub M M') : Sub (RX.up M p o) (RX.up M' p o) := fun a u e => by
  by_cases z : a = p
  · subst z; rw [up_same] at e ⊢; exact e
  · rw [up_ne z] at e ⊢; exact s a u e
theorem Sub.none {M M' : MM} {p : Addr} (s : Sub M M') (h : M' p = none) : M p = none := by
  cases e : M p with
  | none => rfl
  | some o => rw [s p o e] at h; cases h

/-- a list that is not written any more -/
def FzL (K : PySem.W.Frag) (H : Hp) (a : Addr) (vs : List V) : Prop := (∃ o, H a = some (.frz o (.lst vs))) ∨
  ∃ (its : List Value) (n : Nat), K.lookup a = some { cls := .type "list", data := .seq its.toArray n } ∧ vs.length ≤ sizeLine ∧ Vals vs its
def LsR (K : PySem.W.Frag) (H : Hp) (a : Addr) (vs : List V) : Prop := H a = some (.lst vs) ∨ FzL K H a vs
theorem FzL.sql {K : PySem.W.Frag} {H : Hp} {a : Addr} {vs : List V} (h : FzL K H a vs) : SqL K H a vs := by
  rcases h with ⟨o, h⟩ | ⟨its, n, h1, h2, h3⟩
  · exact .inl (.inr ⟨o, h⟩)
  · exact .inr ⟨_, its.toArray, n, h1, rfl, rfl, rfl, by rw [List.size_toArray, ← h3.length]; exact h2, by simpa using h3⟩
theorem LsR.sql {K : PySem.W.Frag} {H : Hp} {a : Addr} {vs : List V} (h : LsR K H a vs) : SqL K H a vs := by
  rcases h with h | h
  · exact .inl (.inl h)
  · exact h.sql
/-- a tuple without a dict of its own -/
def TpS (K : PySem.W.Frag) (H : Hp) (a : Addr) (vs : List V) : Prop := (∃ o, H a = some (.frz o (.tup vs)) ∧ o.dict = none) ∨
  ∃ (o : Obj) (its : Array Value) (n : Nat), K.lookup a = some o ∧ o.cls = .type "tuple" ∧ o.dict = none ∧ o.data = .seq its n ∧ its.size ≤ sizeLine ∧ Vals vs its.toList
theorem TpS.sqt {K : PySem.W.Frag} {H : Hp} {a : Addr} {vs : List V} (h : TpS K H a vs) : SqT K H a vs := by
  rcases h with ⟨o, h, _⟩ | ⟨o, its, n, h1, h2, h3, h4⟩
  · exact .inl (.inr ⟨o, h⟩)
  · exact .inr ⟨o, its, n, h1, h2, h4⟩
/-- at dx: the dict of an exception that keeps v by the name f; it is written no more -/
def XdF (H : Hp) (dx : Addr) (f : Str) (v : V) : Prop := ∃ o, H dx = some (.frz o (.xd [(f, v)]))
/-- at a: an exception of the class at c, its dict; it is written no more -/
def XoF (H : Hp) (a c : Addr) (d : Option Addr) : Prop := ∃ (o : Obj) (u : HO) (vs : Array Value), H a = some (.frz o u) ∧ o.cls = .ref c ∧ o.dict = d ∧ o.data = .fields vs
mutual
def Rep (K : PySem.W.Frag) (H : Hp) : D → V → Prop
  | .non, v => v = .non
  | .bl b, v => v = .bl b
  | .int i, v => v = .int i
  | .str x, v => v = .str x
  | .ty n, v => v = .ty n
  | .ref a, v => v = .ref a
  | .tup ds, v => ∃ a vs, v = .ref a ∧ TpS K H a vs ∧ RepL K H ds vs
  | .wtp ds, v => ∃ a vs, v = .ref a ∧ SqT K H a vs ∧ RepL K H ds vs
  | .lst ds, v => ∃ a vs, v = .ref a ∧ FzL K H a vs ∧ RepL K H ds vs
  | .dct ks ds, v => ∃ a o vs, v = .ref a ∧ H a = some (.frz o (.dK (ks.zip vs))) ∧ ks.length = vs.length ∧ RepL K H ds vs
  | .exc C f x, v => ∃ a dx y, v = .ref a ∧ XoF H a (He.ga K C) (some dx) ∧ XdF H dx f y ∧ Rep K H x y
  | .exn C, v => ∃ a, v = .ref a ∧ XoF H a (He.ga K C) none
def RepL (K : PySem.W.Frag) (H : Hp) : List D → List V → Prop
  | [], vs => vs = []
  | d :: ds, vs => ∃ v r, vs = v :: r ∧ Rep K H d v ∧ RepL K H ds r
end
/-- tuples and what is frozen stay -/
structure KeepF (H H' : Hp) : Prop where
  tup : ∀ a xs, H a = some (.tup xs) → H' a = some (.tup xs)
  frz : ∀ a o u, H a = some (.frz o u) → H' a = some (.frz o u)
theorem KeepF.refl {H : Hp} : KeepF H H := ⟨fun _ _ h => h, fun _ _ _ h => h⟩
theorem KeepF.trans {H H1 H2 : Hp} (a : KeepF H H1) (b : KeepF H1 H2) : KeepF H H2 := ⟨fun x y h => b.tup x y (a.tup x y h), fun x y z h => b.frz x y z (a.frz x y z h)⟩
theorem KeepF.new {H : Hp} {p : Addr} {o : HO} (h : H p = none) : KeepF H (upd H p o) :=
  ⟨fun a xs e => by rw [upd_ne (ne_of_none e h)]; exact e, fun a o u e => by rw [upd_ne (ne_of_none e h)]; exact e⟩
/-- what may be written, tables of code objects among it -/
def MutT (o : Option HO) : Prop := Mut o ∨ ∃ ps, o = some (.tbl ps)
theorem MutT.no_tup {xs : List V} (h : MutT (some (.tup xs))) : False := h.elim (fun z => z) fun ⟨_, e⟩ => nomatch e
theorem MutT.no_frz {o : Obj} {u : HO} (h : MutT (some (.frz o u))) : False := h.elim (fun z => z) fun ⟨_, e⟩ => nomatch e
theorem KeepF.mut {H : Hp} {p : Addr} {o : HO} (h : MutT (H p)) : KeepF H (upd H p o) :=
  ⟨fun a xs e => by
    have : a ≠ p := fun z => by rw [z] at e; rw [e] at h; exact h.no_tup
    rw [upd_ne this]; exact e,
   fun a o u e => by
    have : a ≠ p := fun z => by rw [z] at e; rw [e] at h; exact h.no_frz
    rw [upd_ne this]; exact e⟩
section
variable {K : PySem.W.Frag} {H H' : Hp}
theorem KeepF.rd {a : Addr} {xs : List V} (k : KeepF H H') (h : Rd H a (.tup xs)) : Rd H' a (.tup xs) := by
  rcases h with h | ⟨o, h⟩
  · exact .inl (k.tup _ _ h)
  · exact .inr ⟨o, k.frz _ _ _ h⟩
theorem KeepF.fzl {a : Addr} {xs : List V} (k : KeepF H H') (h : FzL K H a xs) : FzL K H' a xs := by
  rcases h with ⟨o, h⟩ | h
  · exact .inl ⟨o, k.frz _ _ _ h⟩
  · exact .inr h
theorem KeepF.tps {a : Addr} {xs : List V} (k : KeepF H H') (h : TpS K H a xs) : TpS K H' a xs := by
  rcases h with ⟨o, h, e⟩ | h
  · exact .inl ⟨o, k.frz _ _ _ h, e⟩
  · exact .inr h
theorem XdF.keep {dx : Addr} {f : Str} {v : V} (k : KeepF H H') (h : XdF H dx f v) : XdF H' dx f v := let ⟨o, e⟩ := h; ⟨o, k.frz _ _ _ e⟩
theorem XoF.keep {a c : Addr} {d : Option Addr} (k : KeepF H H') (h : XoF H a c d) : XoF H' a c d := let ⟨o, u, vs, e, r⟩ := h; ⟨o, u, vs, k.frz _ _ _ e, r⟩
theorem KeepF.sqt {a : Addr} {xs : List V} (k : KeepF H H') (h : SqT K H a xs) : SqT K H' a xs := by
  rcases h with h | h
  · exact .inl (k.rd h)
  · exact .inr h
end
mutual
theorem Rep.keep {K : PySem.W.Frag} {H H' : Hp} (k : KeepF H H') : ∀ {d : D} {v : V}, Rep K H d v → Rep K H' d v
  | .non, _, h => h
  | .bl _, _, h => h
  | .int _, _, h => h
  | .str _, _, h => h
  | .ty _, _, h => h
  | .ref _, _, h => h
  | .tup ds, v, h => by
    unfold Rep at h ⊢
    obtain ⟨a, vs, e, s, r⟩ := h
    exact ⟨a, vs, e, k.tps s, RepL.keep k r⟩
  | .wtp ds, v, h => by
    unfold Rep at h ⊢
    obtain ⟨a, vs, e, s, r⟩ := h
    exact ⟨a, vs, e, k.sqt s, RepL.keep k r⟩
  | .lst ds, v, h => by
    unfold Rep at h ⊢
    obtain ⟨a, vs, e, s, r⟩ := h
    exact ⟨a, vs, e, k.fzl s, RepL.keep k r⟩
  | .dct ks ds, v, h => by
    unfold Rep at h ⊢
    obtain ⟨a, o, vs, e, s, l, r⟩ := h
    exact ⟨a, o, vs, e, k.frz _ _ _ s, l, RepL.keep k r⟩
  | .exc C f x, v, h => by
    unfold Rep at h ⊢
    obtain ⟨a, dx, y, e, h1, h2, r⟩ := h
    exact ⟨a, dx, y, e, h1.keep k, h2.keep k, Rep.keep k r⟩
  | .exn C, v, h => by
    unfold Rep at h ⊢
    obtain ⟨a, e, h1⟩ := h
    exact ⟨a, e, h1.keep k⟩
theorem RepL.keep {K : PySem.W.Frag} {H H' : Hp} (k : KeepF H H') : ∀ {ds : List D} {vs : List V}, RepL K H ds vs → RepL K H' ds vs
  | [], _, h => h
  | d :: ds, vs, h => by
    unfold RepL at h ⊢
    obtain ⟨v, r, e, h1, h2⟩ := h
    exact ⟨v, r, e, Rep.keep k h1, RepL.keep k h2⟩
end
section
variable {K : PySem.W.Frag} {H H' : Hp}
theorem RepL.nil : RepL K H [] [] := by unfold RepL; rfl
theorem RepL.cons {d : D} {v : V} {ds : List D} {vs : List V} (h : Rep K H d v) (r : RepL K H ds vs) : RepL K H (d :: ds) (v :: vs) := by
  unfold RepL; exact ⟨v, vs, rfl, h, r⟩
theorem RepL.cons_inv {d : D} {ds : List D} {vs : List V} (h : RepL K H (d :: ds) vs) : ∃ v r, vs = v :: r ∧ Rep K H d v ∧ RepL K H ds r := by
  unfold RepL at h; exact h
theorem RepL.nil_inv {vs : List V} (h : RepL K H [] vs) : vs = [] := by unfold RepL at h; exact h
theorem RepL.length : ∀ {ds : List D} {vs : List V}, RepL K H ds vs → ds.length = vs.length
  | [], _, h => by rw [h.nil_inv]; rfl
  | d :: ds, _, h => by
    obtain ⟨v, r, rfl, _, h2⟩ := h.cons_inv
    rw [List.length_cons, List.length_cons, RepL.length h2]
theorem RepL.append : ∀ {ds es : List D} {vs ws : List V}, RepL K H ds vs → RepL K H es ws → RepL K H (ds ++ es) (vs ++ ws)
  | [], _, _, _, h, g => by rw [h.nil_inv]; exact g
  | d :: ds, _, _, _, h, g => by
    obtain ⟨v, r, rfl, h1, h2⟩ := h.cons_inv
    exact .cons h1 (RepL.append h2 g)
theorem RepL.get : ∀ {ds : List D} {vs : List V} {i : Nat} {d : D}, RepL K H ds vs → ds[i]? = some d → ∃ v, vs[i]? = some v ∧ Rep K H d v
  | [], _, _, _, _, e => by simp at e
  | d :: ds, _, 0, _, h, e => by
    obtain ⟨v, r, rfl, h1, h2⟩ := h.cons_inv
    cases (Option.some.inj e)
    exact ⟨v, rfl, h1⟩
  | d :: ds, _, i + 1, _, h, e => by
    obtain ⟨v, r, rfl, h1, h2⟩ := h.cons_inv
    obtain ⟨v', e1, e2⟩ := RepL.get (i := i) h2 (by simpa using e)
    exact ⟨v', by simpa using e1, e2⟩
theorem RepL.getV : ∀ {ds : List D} {vs : List V} {i : Nat} {v : V}, RepL K H ds vs → vs[i]? = some v → ∃ d, ds[i]? = some d ∧ Rep K H d v
  | [], _, _, _, h, e => by rw [h.nil_inv] at e; simp at e
  | d :: ds, _, 0, _, h, e => by
    obtain ⟨v, r, rfl, h1, h2⟩ := h.cons_inv
    cases (Option.some.inj e)
    exact ⟨d, rfl, h1⟩
  | d :: ds, _, i + 1, _, h, e => by
    obtain ⟨v, r, rfl, h1, h2⟩ := h.cons_inv
    obtain ⟨d', e1, e2⟩ := RepL.getV (i := i) h2 (by simpa using e)
    exact ⟨d', by simpa using e1, e2⟩
theorem RepL.take : ∀ {ds : List D} {vs : List V} (n : Nat), RepL K H ds vs → RepL K H (ds.take n) (vs.take n)
  | _, _, 0, _ => by simpa using RepL.nil
  | [], _, n + 1, h => by rw [h.nil_inv]; simpa using RepL.nil
  | d :: ds, _, n + 1, h => by
    obtain ⟨v, r, rfl, h1, h2⟩ := h.cons_inv
    exact .cons h1 (RepL.take n h2)
theorem RepL.drop : ∀ {ds : List D} {vs : List V} (n : Nat), RepL K H ds vs → RepL K H (ds.drop n) (vs.drop n)
  | _, _, 0, h => by simpa using h
  | [], _, n + 1, h => by rw [h.nil_inv]; simpa using RepL.nil
  | d :: ds, _, n + 1, h => by
    obtain ⟨v, r, rfl, h1, h2⟩ := h.cons_inv
    exact RepL.drop n h2
theorem RepL.set : ∀ {ds : List D} {vs : List V} {d : D} {v : V} (i : Nat), RepL K H ds vs → Rep K H d v → RepL K H (ds.set i d) (vs.set i v)
  | [], _, _, _, _, h, _ => by rw [h.nil_inv]; simpa using RepL.nil
  | d :: ds, _, _, _, 0, h, g => by
    obtain ⟨v, r, rfl, h1, h2⟩ := h.cons_inv
    exact .cons g h2
  | d :: ds, _, _, _, i + 1, h, g => by
    obtain ⟨v, r, rfl, h1, h2⟩ := h.cons_inv
    exact .cons h1 (RepL.set i h2 g)
theorem RepL.reverse : ∀ {ds : List D} {vs : List V}, RepL K H ds vs → RepL K H ds.reverse vs.reverse
  | [], _, h => by rw [h.nil_inv]; simpa using RepL.nil
  | d :: ds, _, h => by
    obtain ⟨v, r, rfl, h1, h2⟩ := h.cons_inv
    rw [List.reverse_cons, List.reverse_cons]
    exact .append (RepL.reverse h2) (.cons h1 .nil)
theorem RepL.eraseIdx {ds : List D} {vs : List V} (n : Nat) (h : RepL K H ds vs) : RepL K H (ds.eraseIdx n) (vs.eraseIdx n) := by
  rw [List.eraseIdx_eq_take_drop_succ, List.eraseIdx_eq_take_drop_succ]
  exact (h.take n).append (h.drop (n + 1))
/-! a key as a tree -/
mutual
def kN : NestedKey → D
  | .none => .non
  | .num i => .int i
  | .text x => .str x
  | .tup ks => .tup (kNs ks)
def kNs : List NestedKey → List D
  | [] => []
  | k :: ks => kN k :: kNs ks
end
/-- a dict whose keys are tuples -/
def dnE (w : World) (x : NestedKey × Addr × Value) : DictEntry := ⟨x.1.hash w, .ref x.2.1, x.2.2⟩
def dnO (w : World) (a : Addr) (xs : List (NestedKey × Addr × Value)) : HO := .ext fun h => (a == sysModules) = false ∧ xs.length ≤ sizeLine ∧ ∃ o es ep, h.get? a = some o ∧ o.ExactDict ∧ o.data = .dict es ep ∧ es.toList = xs.map (dnE w) ∧ (xs.map (·.1)).Nodup
/-- an entry, by trees -/
def DnR (K : PySem.W.Frag) (H : Hp) (p : NestedKey × D) (x : NestedKey × Addr × Value) : Prop := p.1 = x.1 ∧ p.1.depth ≤ 8 ∧ Rep K H (kN x.1) (.ref x.2.1) ∧ ∃ v, RelV v x.2.2 ∧ Rep K H p.2 v
theorem DnR.keep (k : KeepF H H') {p : NestedKey × D} {x : NestedKey × Addr × Value} (h : DnR K H p x) : DnR K H' p x := ⟨h.1, h.2.1, h.2.2.1.keep k, let ⟨v, a, b⟩ := h.2.2.2; ⟨v, a, b.keep k⟩⟩
/-- what may be written, by the abstract heap -/
def RepO (K : PySem.W.Frag) (H : Hp) (a : Addr) : DO → Prop
  | .lst ds => ∃ vs, H a = some (.lst vs) ∧ RepL K H ds vs
  | .dct ks ds => ∃ vs, H a = some (.dK (ks.zip vs)) ∧ ks.length = vs.length ∧ RepL K H ds vs
  | .ins C ks ds => ∃ dx vs, H a = some (.ins (He.ga K C) dx (ks.zip vs)) ∧ ks.length = vs.length ∧ RepL K H ds vs
  | .dn w kds => ∃ xs, H a = some (dnO w a xs) ∧ Paired (DnR K H) kds xs
  | .tbl f => a = tabA K f ∧ ∃ ps, H a = some (.tbl ps) ∧ TriplesOk ps.toList ∧ ∀ (pos : Pos) (cv : Value), codeAmong pos ps.toList = some cv → ∃ c o, cv = .ref c ∧ H c = some (.frz o (LamX.CodeO c (lamQ f)))
def RepM (K : PySem.W.Frag) (M : MM) (H : Hp) : Prop := ∀ a o, M a = some o → RepO K H a o
theorem RepO.keep {a : Addr} {o : DO} (h : RepO K H a o) (k : KeepF H H') (e : H' a = H a) : RepO K H' a o := by
  cases o with
  | lst ds => obtain ⟨vs, h1, h2⟩ := h; exact ⟨vs, e.trans h1, h2.keep k⟩
  | dct ks ds => obtain ⟨vs, h1, h2, h3⟩ := h; exact ⟨vs, e.trans h1, h2, h3.keep k⟩
  | ins C ks ds => obtain ⟨dx, vs, h1, h2, h3⟩ := h; exact ⟨dx, vs, e.trans h1, h2, h3.keep k⟩
  | dn w kds => obtain ⟨xs, h1, h2⟩ := h; exact ⟨xs, e.trans h1, L2.Paired.mapP h2 fun _ _ r => r.keep k⟩
  | tbl f => obtain ⟨h0, ps, h1, h2, h3⟩ := h; exact ⟨h0, ps, e.trans h1, h2, fun pos cv hc => let ⟨c, o, e1, e2⟩ := h3 pos cv hc; ⟨c, o, e1, k.frz _ _ _ e2⟩⟩
theorem RepO.some {a : Addr} {o : DO} (h : RepO K H a o) : ∃ u, H a = some u ∧ MutT (some u) := by
  cases o with
  | lst ds => obtain ⟨vs, h1, h2⟩ := h; exact ⟨_, h1, .inl trivial⟩
  | dct ks ds => obtain ⟨vs, h1, h2, h3⟩ := h; exact ⟨_, h1, .inl trivial⟩
  | ins C ks ds => obtain ⟨dx, vs, h1, h2, h3⟩ := h; exact ⟨_, h1, .inl trivial⟩
  | dn w kds => obtain ⟨xs, h1, _⟩ := h; exact ⟨_, h1, .inl trivial⟩
  | tbl f => obtain ⟨_, ps, h1, _⟩ := h; exact ⟨_, h1, .inr ⟨_, rfl⟩⟩
theorem RepM.free {M : MM} (r : RepM K M H) {p : Addr} (h : H p = none) : M p = none := by
  cases e : M p with
  | none => rfl
  | some o => obtain ⟨u, h1, _⟩ := (r p o e).some; rw [h1] at h; cases h
theorem RepM.mut {M : MM} (r : RepM K M H) {p : Addr} {o : DO} (h : M p = some o) : MutT (H p) := by
  obtain ⟨u, h1, h2⟩ := (r p o h).some; rw [h1]; exact h2
theorem RepM.sub {M M' : MM} (r : RepM K M' H) (s : Sub M M') : RepM K M H := fun a o e => r a o (s a o e)
/-- a new thing that M does not see -/
theorem RepM.hid {M : MM} (r : RepM K M H) {p : Addr} {o : HO} (h : H p = none) : RepM K M (upd H p o) := fun a u e => by
  have : a ≠ p := fun z => by rw [z, r.free h] at e; cases e
  exact (r a u e).keep (.new h) (upd_ne this)
/-- a new thing -/
theorem RepM.new {M : MM} (r : RepM K M H) {p : Addr} {o : HO} {d : DO} (h : H p = none) (n : RepO K (upd H p o) p d) : RepM K (up M p d) (upd H p o) := fun a u e => by
  by_cases z : a = p
  · subst z; rw [up_same] at e; cases e; exact n
  · rw [up_ne z] at e; exact (r a u e).keep (.new h) (upd_ne z)
/-- a thing is written -/
theorem RepM.put {M : MM} (r : RepM K M H) {p : Addr} {o : HO} {d d0 : DO} (h : M p = some d0) (n : RepO K (upd H p o) p d) : RepM K (up M p d) (upd H p o) := fun a u e => by
  by_cases z : a = p
  · subst z; rw [up_same] at e; cases e; exact n
  · rw [up_ne z] at e; exact (r a u e).keep (.mut (r.mut h)) (upd_ne z)
/-- a thing is written, and no more seen -/
theorem RepM.cut {M : MM} (r : RepM K M H) {p : Addr} {o : HO} {d0 : DO} (h : M p = some d0) : RepM K (del M p) (upd H p o) := fun a u e => by
  unfold del at e
  by_cases z : a = p
  · rw [if_pos z] at e; cases e
  · rw [if_neg z] at e; exact (r a u e).keep (.mut (r.mut h)) (upd_ne z)
/-- the slots -/
abbrev DSt := List (Option D)
def RelD (K : PySem.W.Frag) (H : Hp) : Option D → Option V → Prop
  | none, _ => True
  | some d, some v => Rep K H d v
  | some _, none => False
abbrev RepS (K : PySem.W.Frag) (H : Hp) : DSt → SV → Prop := Paired (RelD K H)
theorem RelD.keep {d : Option D} {v : Option V} (k : KeepF H H') (h : RelD K H d v) : RelD K H' d v := by
  cases d with
  | none => trivial
  | some d => cases v with
    | none => exact h
    | some v => exact Rep.keep k h
theorem RepS.keep {σd : DSt} {σ : SV} (k : KeepF H H') (h : RepS K H σd σ) : RepS K H' σd σ := L2.Paired.mapP h fun _ _ r => r.keep k
theorem RepS.get : ∀ {σd : DSt} {σ : SV} {i : Nat} {d : D}, RepS K H σd σ → σd[i]? = some (some d) → ∃ v, σ[i]? = some (some v) ∧ Rep K H d v
  | _, _, _, _, .nil, e => by simp at e
  | _, _, 0, d, .cons (b := b) r _, e => by
    have e' := Option.some.inj e
    subst e'
    cases b with
    | none => exact r.elim
    | some v => exact ⟨v, rfl, r⟩
  | _, _, i + 1, d, .cons _ t, e => by
    obtain ⟨v, e1, e2⟩ := RepS.get (i := i) t (by simpa using e)
    exact ⟨v, by simpa using e1, e2⟩
theorem RepS.set : ∀ {σd : DSt} {σ : SV} {d : Option D} {v : Option V} (i : Nat), RepS K H σd σ → RelD K H d v → RepS K H (σd.set i d) (σ.set i v)
  | _, _, _, _, _, .nil, _ => .nil
  | _, _, _, _, 0, .cons _ t, h => .cons h t
  | _, _, _, _, i + 1, .cons r t, h => .cons r (RepS.set i t h)
def wipeD (σ : DSt) : List Nat → DSt
  | [] => σ
  | v :: vs => (wipeD σ vs).set v none
theorem RepS.wipe {σd : DSt} {σ : SV} (h : RepS K H σd σ) : ∀ vs : List Nat, RepS K H (wipeD σd vs) (wipe σ vs)
  | [] => h
  | v :: vs => (RepS.wipe h vs).set v trivial
theorem RepS.weak : ∀ {σd : DSt} {σ σ' : SV}, RepS K H σd σ → σ.length = σ'.length → (∀ (i : Nat) (v : V), σ[i]? = some (some v) → σd[i]?.join.isSome → σ'[i]? = some (some v)) → RepS K H σd σ'
  | _, _, σ', .nil, hl, _ => by
    cases σ' with
    | nil => exact .nil
    | cons => simp at hl
  | _, _, σ', .cons (a := a) (b := b) r t, hl, h => by
    cases σ' with
    | nil => simp at hl
    | cons v' σ' =>
      refine .cons ?_ (RepS.weak t (by simpa using hl) fun i v e1 e2 => by simpa using h (i + 1) v (by simpa using e1) (by simpa using e2))
      cases a with
      | none => trivial
      | some d => cases b with
        | none => exact r.elim
        | some v =>
          have q := h 0 v rfl rfl
          have q' : v' = some v := by simpa using q
          subst q'
          exact r
end
/-- what M does not see is left as it is, and what comes to be seen is new -/
def Fr (M : MM) (H : Hp) (M' : MM) (H' : Hp) : Prop := ∀ a u, H a = some u → M a = none → H' a = some u ∧ M' a = none
section
variable {K : PySem.W.Frag} {M M1 M2 M' : MM} {H H1 H2 H' : Hp}
theorem Fr.refl : Fr M H M H := fun _ _ h m => ⟨h, m⟩
theorem Fr.trans (a : Fr M H M1 H1) (b : Fr M1 H1 M2 H2) : Fr M H M2 H2 := fun x u h m => let ⟨h1, m1⟩ := a x u h m; b x u h1 m1
theorem Fr.keep (f : Fr M H M' H') (r : RepM K M H) : KeepF H H' := by
  have no : ∀ a u, H a = some u → ¬ MutT (some u) → M a = none := fun a u e nm => by
    cases q : M a with
    | none => rfl
    | some o => have := r.mut q; rw [e] at this; exact absurd this nm
  exact ⟨fun a xs e => (f a _ e (no a _ e MutT.no_tup)).1, fun a o u e => (f a _ e (no a _ e MutT.no_frz)).1⟩
theorem Fr.hid {p : Addr} {o : HO} (h : H p = none) : Fr M H M (upd H p o) := fun a u e m => ⟨by rw [upd_ne (ne_of_none e h)]; exact e, m⟩
theorem Fr.new {p : Addr} {o : HO} {d : DO} (h : H p = none) : Fr M H (up M p d) (upd H p o) := fun a u e m => ⟨by rw [upd_ne (ne_of_none e h)]; exact e, by rw [up_ne (ne_of_none e h)]; exact m⟩
theorem Fr.put {p : Addr} {o : HO} {d d0 : DO} (h : M p = some d0) : Fr M H (up M p d) (upd H p o) := fun a u e m => by
  have : a ≠ p := fun z => by rw [z, h] at m; cases m
  exact ⟨by rw [upd_ne this]; exact e, by rw [up_ne this]; exact m⟩
theorem Fr.cut {p : Addr} {o : HO} {d0 : DO} (h : M p = some d0) : Fr M H (del M p) (upd H p o) := fun a u e m => by
  have : a ≠ p := fun z => by rw [z, h] at m; cases m
  exact ⟨by rw [upd_ne this]; exact e, by unfold del; rw [if_neg this]; exact m⟩
theorem Fr.sub (f : Fr M H M1 H') (s : Sub M' M1) : Fr M H M' H' := fun a u e m => let ⟨h1, m1⟩ := f a u e m; ⟨h1, s.none m1⟩
end
/-! ### wishes over trees -/
abbrev DV := D → MM → Prop
abbrev DE := DSt → MM → DV → Prop
abbrev DT := DSt → MM → (Bool → MM → Prop) → Prop
abbrev DA := DSt → MM → (List D → MM → Prop) → Prop
structure DEnds where
  nx : DSt → MM → Prop
  rt : DV
  bk : DSt → MM → Prop := fun _ _ => False
  ct : DSt → MM → Prop := fun _ _ => False
abbrev DS := DEnds → DSt → MM → Prop
abbrev DG := D → DSt → MM → (DSt → MM → Prop) → Prop
abbrev DGs := List D → DSt → MM → (DSt → MM → Prop) → Prop
abbrev Bs := MM × Hp
/-- what stands ahead of a step -/
structure At (K : PySem.W.Frag) (B : Bs) (H : Hp) (σd : DSt) (M : MM) (σ : SV) : Prop where
  b : Fr B.1 B.2 M H
  s : RepS K H σd σ
  m : RepM K M H
theorem At.go {K : PySem.W.Frag} {B : Bs} {H H' : Hp} {σd : DSt} {M M' : MM} {σ : SV} (a : At K B H σd M σ) (k : Fr M H M' H') (m : RepM K M' H') : At K B H' σd M' σ := ⟨a.b.trans k, a.s.keep (k.keep a.m), m⟩
theorem At.slots {K : PySem.W.Frag} {B : Bs} {H : Hp} {σd σd' : DSt} {M : MM} {σ σ' : SV} (a : At K B H σd M σ) (s : RepS K H σd' σ') : At K B H σd' M σ' := ⟨a.b, s, a.m⟩
theorem At.rep {K : PySem.W.Frag} {B : Bs} {H H' : Hp} {σd : DSt} {M M' : MM} {σ : SV} {d : D} {v : V} (a : At K B H σd M σ) (k : Fr M H M' H') (r : Rep K H d v) : Rep K H' d v := r.keep (k.keep a.m)
theorem At.repL {K : PySem.W.Frag} {B : Bs} {H H' : Hp} {σd : DSt} {M M' : MM} {σ : SV} {d : List D} {v : List V} (a : At K B H σd M σ) (k : Fr M H M' H') (r : RepL K H d v) : RepL K H' d v := r.keep (k.keep a.m)
def LE (K : PySem.W.Frag) (B : Bs) (t : DE) : TE := fun σ H Q => ∃ σd M Qd, At K B H σd M σ ∧ t σd M Qd ∧ ∀ d M' v H', Fr M H M' H' → Rep K H' d v → RepM K M' H' → Qd d M' → Q v H'
def LT (K : PySem.W.Frag) (B : Bs) (t : DT) : TT := fun σ H Q => ∃ σd M Qd, At K B H σd M σ ∧ t σd M Qd ∧ ∀ b M' H', Fr M H M' H' → RepM K M' H' → Qd b M' → Q b H'
def LA (K : PySem.W.Frag) (B : Bs) (t : DA) : TA := fun σ H Q => ∃ σd M Qd, At K B H σd M σ ∧ t σd M Qd ∧ ∀ ds M' vs H', Fr M H M' H' → RepL K H' ds vs → RepM K M' H' → Qd ds M' → Q vs H'
structure EndsOk (K : PySem.W.Frag) (M : MM) (H : Hp) (Dd : DEnds) (E : Ends) : Prop where
  nx : ∀ σd M' σ H', Fr M H M' H' → RepS K H' σd σ → RepM K M' H' → Dd.nx σd M' → E.nx σ H'
  rt : ∀ d M' v H', Fr M H M' H' → Rep K H' d v → RepM K M' H' → Dd.rt d M' → E.rt v H'
  bk : ∀ σd M' σ H', Fr M H M' H' → RepS K H' σd σ → RepM K M' H' → Dd.bk σd M' → E.bk σ H'
  ct : ∀ σd M' σ H', Fr M H M' H' → RepS K H' σd σ → RepM K M' H' → Dd.ct σd M' → E.ct σ H'
theorem EndsOk.go {K : PySem.W.Frag} {M M1 : MM} {H H1 : Hp} {Dd : DEnds} {E : Ends} (e : EndsOk K M H Dd E) (k : Fr M H M1 H1) : EndsOk K M1 H1 Dd E :=
  ⟨fun a b c d x => e.nx a b c d (k.trans x), fun a b c d x => e.rt a b c d (k.trans x), fun a b c d x => e.bk a b c d (k.trans x), fun a b c d x => e.ct a b c d (k.trans x)⟩
def LS (K : PySem.W.Frag) (B : Bs) (t : DS) : TS := fun E σ H => ∃ σd M Dd, At K B H σd M σ ∧ t Dd σd M ∧ EndsOk K M H Dd E
def LG (K : PySem.W.Frag) (B : Bs) (t : DG) : TG := fun v σ H Q => ∃ d σd M Qd, Rep K H d v ∧ At K B H σd M σ ∧ t d σd M Qd ∧ ∀ σd' M' σ' H', Fr M H M' H' → RepS K H' σd' σ' → RepM K M' H' → Qd σd' M' → Q σ' H'
def LGs (K : PySem.W.Frag) (B : Bs) (t : DGs) : TGs := fun vs σ H Q => ∃ ds σd M Qd, RepL K H ds vs ∧ At K B H σd M σ ∧ t ds σd M Qd ∧ ∀ σd' M' σ' H', Fr M H M' H' → RepS K H' σd' σ' → RepM K M' H' → Qd σd' M' → Q σ' H'
/-- what follows, at the states themselves -/
def EPD (X : Cx) (pins : List (Addr × Obj)) (σ : SV) (M : MM) (H : Hp) (Qd : DV) (u : Value) (s' : Shared) : Prop :=
  ∃ d M' v H', Inv X pins σ H' s' ∧ RelV v u ∧ Fr M H M' H' ∧ Rep X.K H' d v ∧ RepM X.K M' H' ∧ Qd d M'
theorem EPD.ep {X : Cx} {pins : List (Addr × Obj)} {σ : SV} {M : MM} {H : Hp} {Qd : DV} {Q : VK} {u : Value} {s' : Shared} (h : EPD X pins σ M H Qd u s') (q : ∀ d M' v H', Fr M H M' H' → Rep X.K H' d v → RepM X.K M' H' → Qd d M' → Q v H') : EP X pins σ Q u s' := by
  obtain ⟨d, M', v, H', I, r, k, rd, rm, qd⟩ := h
  exact ⟨v, H', I, r, q d M' v H' k rd rm qd⟩
theorem EPD.of {X : Cx} {pins : List (Addr × Obj)} {σ : SV} {M : MM} {H : Hp} {Qd : DV} {u : Value} {s' : Shared} (h : EP X pins σ (fun v H' => ∃ d M', Fr M H M' H' ∧ Rep X.K H' d v ∧ RepM X.K M' H' ∧ Qd d M') u s') : EPD X pins σ M H Qd u s' := by
  obtain ⟨v, H', I, r, d, M', k, rd, rm, qd⟩ := h
  exact ⟨d, M', v, H', I, r, k, rd, rm, qd⟩
section
variable {X : Cx} {e : Expr} {B : Bs}
theorem _root_.L2.PE.imp {t t' : TE} (h : PE X e t) (i : ∀ σ H Q, t' σ H Q → t σ H Q) : PE X e t' := ⟨fun pins s σ H Q I q => h.run pins s σ H Q I (i σ H Q q)⟩
theorem _root_.L2.PT.imp {t t' : TT} (h : PT X e t) (i : ∀ σ H Q, t' σ H Q → t σ H Q) : PT X e t' := ⟨fun pins s σ H Q I q => h.run pins s σ H Q I (i σ H Q q)⟩
theorem _root_.L2.PW.imp {t t' : TT} (h : PW X e t) (i : ∀ σ H Q, t' σ H Q → t σ H Q) : PW X e t' := ⟨fun w pins s σ H Q I q => h.run w pins s σ H Q I (i σ H Q q)⟩
theorem _root_.L2.PA.imp {es : List Expr} {t t' : TA} (h : PA X es t) (i : ∀ σ H Q, t' σ H Q → t σ H Q) : PA X es t' := ⟨fun p pins s σ H Q I q => h.run p pins s σ H Q I (i σ H Q q)⟩
theorem _root_.L2.PG.imp {t t' : TG} (h : PG X e t) (i : ∀ v σ H Q, t' v σ H Q → t v σ H Q) : PG X e t' := ⟨fun pins s σ H v u Q I r q => h.run pins s σ H v u Q I r (i v σ H Q q)⟩
theorem _root_.L2.PGs.imp {es : List Expr} {t t' : TGs} (h : PGs X es t) (i : ∀ v σ H Q, t' v σ H Q → t v σ H Q) : PGs X es t' := ⟨fun pins s σ H v u Q I r q => h.run pins s σ H v u Q I r (i v σ H Q q)⟩
theorem _root_.L2.PI.imp {tg : Expr} {t t' : TI} (h : PI X tg e t) (i : ∀ σ H Q, t' σ H Q → t σ H Q) : PI X tg e t' := ⟨fun pins s σ H R I q => h.run pins s σ H R I (i σ H R q)⟩
theorem _root_.L2.PS.imp {st : Stmt} {t t' : TS} (h : PS X st t) (i : ∀ D σ H, t' D σ H → t D σ H) : PS X st t' := ⟨fun pins s σ H D I q => h.run pins s σ H D I (i D σ H q)⟩
theorem _root_.L2.PSs.imp {st : List Stmt} {t t' : TS} (h : PSs X st t) (i : ∀ D σ H, t' D σ H → t D σ H) : PSs X st t' := ⟨fun pins s σ H D I q => h.run pins s σ H D I (i D σ H q)⟩
/-- from and to the states -/
theorem pe_of {t : DE} (h : ∀ pins s σ H σd M Qd, Inv X pins σ H s → At X.K B H σd M σ → t σd M Qd → wpAny (model X.prog X.w) X.A (eval e X.env) (EPD X pins σ M H Qd) X.xe s) : PE X e (LE X.K B t) := by
  refine ⟨fun pins s σ H Q I ⟨σd, M, Qd, a, ht, q⟩ => ?_⟩
  exact thn (h pins s σ H σd M Qd I a ht) fun u s' x => x.ep q
theorem PE.at {t : DE} (h : PE X e (LE X.K B t)) {pins : List (Addr × Obj)} {s : Shared} {σ : SV} {H : Hp} {σd : DSt} {M : MM} {Qd : DV} (I : Inv X pins σ H s) (a : At X.K B H σd M σ) (ht : t σd M Qd) :
    wpAny (model X.prog X.w) X.A (eval e X.env) (EPD X pins σ M H Qd) X.xe s :=
  thn (h.run pins s σ H _ I ⟨σd, M, Qd, a, ht, fun d M' v H' k r m q => ⟨d, M', k, r, m, q⟩⟩) fun u s' x => EPD.of x
end
/-- a new tuple, list, dict that is written no more is frozen: its object is known from here on -/
theorem freeze {X : Cx} {pins : List (Addr × Obj)} {σ : SV} {H : Hp} {s : Shared} {p : Addr} {u : HO} (I : Inv X pins σ H s) (h : H p = some u) (hu : ∀ C dx fs, u ≠ .ins C dx fs) (m : Mut (some u)) : ∃ o, Inv X pins σ (upd H p (.frz o u)) s := by
  have ok := I.hok p u h
  obtain ⟨o, ho⟩ : ∃ o, s.heap.get? p = some o := by
    cases u with
    | lst xs => obtain ⟨_, its, n, _, e⟩ := ok; exact ⟨_, e⟩
    | dK kvs => obtain ⟨_, _, _, _, o, _, _, e, _⟩ := ok; exact ⟨_, e⟩
    | dT kvs => obtain ⟨_, _, _, _, o, _, _, e, _⟩ := ok; exact ⟨_, e⟩
    | set S n => obtain ⟨o, _, _, _, e, _⟩ := ok; exact ⟨_, e⟩
    | ins C dx fs => exact absurd rfl (hu C dx fs)
    | ext φ => obtain ⟨_, ⟨o, e⟩, _⟩ := ok; exact ⟨_, e⟩
    | _ => exact m.elim
  refine ⟨o, ?_⟩
  have mu : Mut (H p) := by rw [h]; exact m
  refine I.un (h' := s.heap) (t' := s.toks) (Un.write (e := p) mu (.inl rfl) (fun b o _ q => q) ⟨o, ho⟩) ?_
  refine I.hok.write mu (.inl rfl) (fun b o _ q => q) ⟨o, ho⟩ ⟨ho, ?_⟩
  refine ok.stay (fun b u _ q => q) (fun b e => ?_) fun b xs e => ?_
  · have : b ≠ p := fun z => by rw [z, h] at e; cases e; exact m
    rw [upd_ne this]; exact e
  · have : b ≠ p := fun z => by rw [z, h] at e; cases e; exact m
    rw [upd_ne this]; exact e
end RX
set_option Elab.async false
set_option linter.all false
set_option maxRecDepth 100000
set_option maxHeartbeats 4000000
/-! RXs: sets made of a list of texts: their number, and the texts in order. -/
namespace RX
open PySem PySem.Spec PyProof.Rows L2
/-- each text once -/
def addS (L : List Str) (z : Str) : List Str := if L.contains z then L else L ++ [z]
def dedup (l : List Str) : List Str := l.foldl addS []
theorem addS_len (L : List Str) (z : Str) : (addS L z).length ≤ L.length + 1 := by
  unfold addS; split <;> simp
theorem addS_nodup {L : List Str} {z : Str} (h : L.Nodup) : (addS L z).Nodup := by
  unfold addS
  split
  · exact h
  · rename_i c
    refine List.nodup_append.mpr ⟨h, by simp, fun a ha b hb e => c ?_⟩
    rw [List.mem_singleton.mp hb] at e
    subst e
    simpa using ha
theorem dedup_take {zs : List Str} {i : Nat} {z : Str} (h : zs[i]? = some z) : dedup (zs.take (i + 1)) = addS (dedup (zs.take i)) z := by
  unfold dedup
  rw [List.take_add_one, h]
  simp
theorem dedup_len (zs : List Str) : (dedup zs).length ≤ zs.length := by
  have g : ∀ (l L : List Str), (l.foldl addS L).length ≤ L.length + l.length := by
    intro l
    induction l with
    | nil => intro L; simp
    | cons z l ih =>
      intro L
      have a := ih (addS L z)
      have b := addS_len L z
      simp only [List.foldl_cons, List.length_cons]
      omega
  simpa [dedup] using g zs []
theorem dedup_nodup (zs : List Str) : (dedup zs).Nodup := by
  have g : ∀ (l L : List Str), L.Nodup → (l.foldl addS L).Nodup := by
    intro l
    induction l with
    | nil => intro L h; exact h
    | cons z l ih => intro L h; exact ih _ (addS_nodup h)
  exact g zs [] (by simp)
/-! ### what such a set is -/
def s0 (w : World) : Obj := { cls := .type "set", dict := none, data := .set #[] 0 (.fresh 0 0 (!w.params.followText "set-order")) }
def sgo (e : Int × Value) : Str := match e.2 with
  | .str z _ => z
  | _ => Str.empty
def SgE (P : Program) (w : World) (e : Int × Value) : Prop := ∃ z τ, e.2 = Value.str z τ ∧ e.1 = (PySem.strKind P w).hash z
/-- the table behind it -/
structure TbOk (w : World) (es : Array (Int × Value)) (t : SetTable) : Prop where
  few : es.size < scanBound
  fit : t.fits es.size = true
  ris : Ris t.place.toList
  led : w.params.followText "set-order" = true ∨ t.led = true
def SsR (P : Program) (w : World) (h : Heap) (a : Addr) (L : List Str) : Prop := ∃ o es ep t, h.get? a = some o ∧ o.ExactSet ∧ o.data = Data.set es ep t ∧ (∀ e ∈ es.toList, SgE P w e) ∧ (es.toList.map sgo).Perm L ∧ L.Nodup ∧ TbOk w es t
section
variable {P : Program} {w : World} {A : Around} {E : Value → Shared → Prop} {s : Shared} {a : Addr} {L : List Str}
theorem SsR.at {h h' : Heap} (R : SsR P w h a L) (k : ∀ o, h.get? a = some o → h'.get? a = some o) : SsR P w h' a L := by
  obtain ⟨o, es, ep, t, e, r⟩ := R; exact ⟨o, es, ep, t, k o e, r⟩
theorem sgE_elems {l : List (Int × Value)} (g : ∀ e ∈ l, SgE P w e) : ElemsOf (PySem.strKind P w) l := fun e m => by
  obtain ⟨z, τ, h1, h2⟩ := g e m
  refine ⟨⟨z, by rw [h1]; exact strKind_is P w z τ, h2⟩, by rw [h1]; rfl⟩
theorem sgE_is {e : Int × Value} (g : SgE P w e) (z : Str) : (PySem.strKind P w).is z e.2 = true ↔ sgo e = z := by
  obtain ⟨y, τ, h1, _⟩ := g
  unfold sgo; rw [h1]
  constructor
  · intro h
    have h : Value.isStrOf z (.str y τ) = true := h
    obtain ⟨t, q⟩ := Value.isStrOf_shape h
    injection q
  · intro h
    have h : y = z := h
    subst h; exact strKind_is P w y τ
theorem sgE_mem {l : List (Int × Value)} (g : ∀ e ∈ l, SgE P w e) (z : Str) : z ∈ l.map sgo ↔ ∃ e ∈ l, (PySem.strKind P w).is z e.2 = true := by
  rw [List.mem_map]
  exact ⟨fun ⟨e, m, q⟩ => ⟨e, m, (sgE_is (g e m) z).2 q⟩, fun ⟨e, m, q⟩ => ⟨e, m, (sgE_is (g e m) z).1 q⟩⟩
/-- the entries laid into the table -/
theorem ss_put {gv : Bool → Sem Unit} (hg : ∀ (b : Bool) (s₁ : Shared) (F : Unit → Shared → Prop), F () s₁ → wpAny (model P w) A (gv b) F E s₁)
    {o : Obj} {es : Array (Int × Value)} {ep : Nat} {t : SetTable} (ho : s.heap.get? a = some o) (hx : o.ExactSet) (hd : o.data = .set es ep t)
    {es1 : Array (Int × Value)} {t2 : SetTable} {L' : List Str} (g1 : ∀ e ∈ es1.toList, SgE P w e) (p1 : (es1.toList.map sgo).Perm L') (n1 : L'.Nodup) (k1 : TbOk w es1 t2) {dm : Bool} {R : Option Bool → Shared → Prop}
    (hR : ∀ h', Heap.SameBut a s.heap h' → SsR P w h' a L' → R (some true) { s with heap := h' }) :
    wpAny (model P w) A (do
        storeSet a es1 t2
        if (!dm && t2.tooFull) = true then do
            gv (relayAll t2 es1 (SetTable.grown es1.size)).2.2
            storeSet a (relayAll t2 es1 (SetTable.grown es1.size)).1 (relayAll t2 es1 (SetTable.grown es1.size)).2.1
            pure (some true)
          else pure (some true)) R E s := by
  refine wpAny_bind (wpAny_storeSet_of ho hd ?_ (fits_of_scanBound k1.few))
  have q1 := store_at (es' := es1) (t' := t2) ho hd; have b1 := Heap.SameBut.update s.heap a (Obj.putSet es1 t2)
  split
  · have pm := relayAll_perm t2 es1 (SetTable.grown es1.size); have f3 := relayAll_fits t2 es1 (SetTable.grown es1.size)
    have r3 := relayAll_ris t2 es1 (SetTable.grown es1.size); have l3 := relayAll_led t2 es1 (SetTable.grown es1.size)
    generalize relayAll t2 es1 (SetTable.grown es1.size) = Y at pm f3 r3 l3 ⊢
    obtain ⟨es2, t3, gave⟩ := Y; dsimp only at pm f3 r3 l3 ⊢
    have z2 : es2.size = es1.size := by rw [← Array.length_toList, pm.length_eq, Array.length_toList]
    have c2 : es2.size < scanBound := by rw [z2]; exact k1.few
    refine wpAny_bind (hg _ _ _ (wpAny_bind (wpAny_storeSet_of q1 rfl ?_ (fits_of_scanBound c2))))
    have q2 := store_at (es' := es2) (t' := t3) q1 rfl
    refine wpAny_pure (hR _ (b1.trans (Heap.SameBut.update _ a _)) ⟨_, es2, _, t3, q2, hx, rfl, fun e m => g1 e (pm.mem_iff.mp m), (pm.map sgo).trans p1, n1, c2, f3, r3, ?_⟩)
    exact k1.led.imp id fun y => by rw [l3]; exact y
  · exact wpAny_pure (hR _ b1 ⟨_, es1, _, t2, q1, hx, rfl, g1, p1, n1, k1⟩)
/-- a text is added -/
theorem ss_add {z : Str} {τ : Tok} {Q : Bool → Shared → Prop} (R : SsR P w s.heap a L) (room : L.length + 1 < scanBound)
    (hQ : ∀ b h', Heap.SameBut a s.heap h' → SsR P w h' a (addS L z) → Q b { s with heap := h' }) :
    wpAny (model P w) A (setAddHashed a (.str z τ) ((PySem.strKind P w).hash z)) Q E s := by
  obtain ⟨o, es, ep, t, ho, hx, hd, g, pm0, nd, tk⟩ := R
  have hkey : (PySem.strKind P w).is z (.str z τ) = true := strKind_is P w z τ
  have hsc : (Value.str z τ).scannable = true := rfl
  have hel := sgE_elems g
  unfold setAddHashed setAddHashedIn
  refine wpAny_holding (wpAny_bind (wpAny_setState_of ho hd tk.fit ?_)); dsimp only
  rw [byScan_of hsc tk.few hel]; simp only [↓reduceIte]
  unfold setAddByScan
  refine wpAny_bind (wpAny_bind (wpAny_rule (wpAny_bind (wpAny_setScan_of hkey ho hd tk.fit hel ?_))))
  have mem : z ∈ L ↔ ∃ e ∈ es.toList, (PySem.strKind P w).is z e.2 = true := by rw [← sgE_mem g z]; exact pm0.mem_iff.symm
  cases hfi : List.findIdx? (fun e => (PySem.strKind P w).is z e.2) es.toList with
  | some j =>
    dsimp only
    obtain ⟨hj, pj, _⟩ := List.findIdx?_eq_some_iff_getElem.mp hfi
    have hz : z ∈ L := mem.2 ⟨es.toList[j], List.getElem_mem hj, pj⟩
    refine wpAny_pure (wpAny_pure (hQ _ s.heap (Heap.SameBut.refl a s.heap) ?_))
    have e1 : addS L z = L := by unfold addS; rw [if_pos (by simpa using hz)]
    rw [e1]; exact ⟨o, es, ep, t, ho, hx, hd, g, pm0, nd, tk⟩
  | none =>
    dsimp only
    have hz : z ∉ L := fun m => by
      obtain ⟨e, he, q⟩ := mem.1 m
      have c := List.findIdx?_eq_none_iff.mp hfi e he
      rw [q] at c; cases c
    have e1 : addS L z = L ++ [z] := by unfold addS; rw [if_neg (by simpa using hz)]
    have n1 : (addS L z).Nodup := addS_nodup nd
    have hgw : ∀ (b : Bool) {s₁ : Shared} {F : Unit → Shared → Prop}, F () s₁ → wpAny (model P w) A (match b with | true => rule "set.scan.the-table-gave-way" | false => pure ()) F E s₁ := fun b s₁ F q => by cases b <;> first | exact wpAny_pure q | exact wpAny_rule q
    have pm := layNew_perm t es ((PySem.strKind P w).hash z) (.str z τ); have f1 := layNew_fits t es ((PySem.strKind P w).hash z) (.str z τ)
    have r1 := layNew_ris t es ((PySem.strKind P w).hash z) (.str z τ) tk.ris; have l1 := layNew_led t es ((PySem.strKind P w).hash z) (.str z τ)
    generalize layNew t es ((PySem.strKind P w).hash z) (.str z τ) = Y at pm f1 r1 l1 ⊢
    obtain ⟨es1, t1, dm, gave⟩ := Y; dsimp only at pm f1 r1 l1 ⊢
    rw [Array.toList_push] at pm
    have pc : es1.toList.Perm (((PySem.strKind P w).hash z, Value.str z τ) :: es.toList) := pm.trans (List.perm_append_singleton _ _)
    have p1 : (es1.toList.map sgo).Perm (addS L z) := by
      rw [e1]
      exact ((pc.map sgo).trans (List.Perm.cons z pm0)).trans (List.perm_append_singleton _ _).symm
    have g1 : ∀ e ∈ es1.toList, SgE P w e := fun e he => by
      rcases List.mem_cons.mp (pc.mem_iff.mp he) with y | y
      · rw [y]; exact ⟨z, τ, rfl, rfl⟩
      · exact g e y
    have z1 : es1.size = L.length + 1 := by
      have := p1.length_eq
      rw [List.length_map, Array.length_toList, e1] at this
      simpa using this
    have c1 : es1.size < scanBound := by rw [z1]; exact room
    have d1 : w.params.followText "set-order" = true ∨ t1.led = true := tk.led.imp id fun y => by rw [l1]; exact y
    refine wpAny_bind (hgw _ ?_)
    have gv : ∀ (b : Bool) (s₁ : Shared) (F : Unit → Shared → Prop), F () s₁ → wpAny (model P w) A (match b with | true => rule "set.scan.the-table-gave-way" | false => pure ()) F E s₁ := fun b s₁ F q => hgw b q
    split
    · refine wpAny_bind ?_
      rw [hashByValue_scannable 8 hsc]
      refine wpAny_pure (ss_put ?_ ho hx hd g1 p1 n1 ⟨c1, ?_, ?_, ?_⟩ fun h' sb r => ?_)
      · intro b s₁ F q; cases b <;> first | exact wpAny_pure q | exact wpAny_rule q
      · first | (split <;> first | exact f1 | exact SetTable.fits_plain_off f1) | exact f1
      · first | (split <;> exact r1) | exact r1
      · first | (split <;> exact d1) | exact d1
      · dsimp only; exact wpAny_pure (hQ _ h' sb r)
    · refine wpAny_bind (wpAny_pure ?_)
      simp only [↓reduceIte]
      refine ss_put ?_ ho hx hd g1 p1 n1 ⟨c1, f1, r1, d1⟩ fun h' sb r => ?_
      · intro b s₁ F q; cases b <;> first | exact wpAny_pure q | exact wpAny_rule q
      · dsimp only; exact wpAny_pure (hQ _ h' sb r)
/-! ### set(list of texts) -/
theorem ss_zero {h : Heap} (e : h.get? a = some (s0 w)) : SsR P w h a [] := by
  refine ⟨_, #[], 0, _, e, ⟨rfl, rfl, rfl⟩, rfl, (fun e m => by simp at m), by simp, by simp, ⟨by decide, by rfl, List.Pairwise.nil, ?_⟩⟩
  show _ ∨ (!w.params.followText "set-order") = true
  cases w.params.followText "set-order" <;> simp
theorem ss_loop {I : Addr} {fp wr : List Addr} {G : Array GenState → Array GenState → Prop} {n : Nat} {Pv : Nat → Value → Prop} {St : Nat → Shared → Prop} {R : Result → Shared → Prop}
    (W : WalksS P w A.in1 I fp wr G n Pv St) (S : Addr) (hSf : S ∉ fp) (zs : List Str) (hn : n = zs.length) (hb : zs.length + 1 < scanBound) (hv : ∀ i v, Pv i v → ∃ z t, zs[i]? = some z ∧ v = .str z t) :
    ∀ (k i : Nat) (s : Shared), n - i = k → i ≤ n → St i s → SsR P w s.heap S (dedup (zs.take i)) →
      (∀ s', Moved (S :: wr) G s s' → SsR P w s'.heap S (dedup zs) → R (.ok (.ret .none)) s') → codeAny (model P w) A (.builtin "set.update.loop" ⟨[.ref S, .ref I], []⟩) R s := by
  have nw : S ∉ wr := fun h => hSf (W.sub _ h)
  have sb : ∀ b ∈ wr, b ∈ S :: wr := fun b hb => List.mem_cons_of_mem _ hb
  intro k
  induction k with
  | zero =>
    intro i s hk hi st hS hR
    have e0 : i = n := by omega
    subst e0
    refine codeAny_builtin F.entry_set_update_loop ?_; rw [Around.under_plainId F.plain_set_update_loop _]
    show wpAny _ A.in1 (pyNext (.ref I) >>= _) _ _ s
    refine wpAny_bind (W.done s _ _ st fun s' m => ?_)
    show wpAny _ A.in1 (ret Value.none) _ _ s'
    rw [List.take_of_length_le (by omega)] at hS
    exact wpAny_pure (hR s' (m.mono sb) (hS.at fun o e => m.heap S o nw e))
  | succ k ih =>
    intro i s hk hi st hS hR
    have lt : i < n := by omega
    refine codeAny_builtin F.entry_set_update_loop ?_; rw [Around.under_plainId F.plain_set_update_loop _]
    show wpAny _ A.in1 (pyNext (.ref I) >>= _) _ _ s
    refine wpAny_bind (W.item i s _ _ lt st fun v s' hP st' m => ?_)
    obtain ⟨z, t, hz, rfl⟩ := hv i v hP
    have hS' : SsR P w s'.heap S (dedup (zs.take i)) := hS.at fun o e => m.heap S o nw e
    show wpAny _ A.in1 (holding [Value.str z t] (setAdd S (.str z t)) >>= _) _ _ s'
    refine wpAny_bind (wpAny_holding ?_); unfold setAdd
    refine wpAny_holding (wpAny_bind ((PySem.strKind P w).pyHash (k := z) (strKind_is _ _ _ _) ?_))
    have small : (dedup (zs.take i)).length + 1 < scanBound := by
      have := dedup_len (zs.take i)
      rw [List.length_take] at this
      omega
    refine ss_add (s := { s' with toks := s'.toks + 1 }) hS' small fun b h' ob hS2 => ?_
    rw [← dedup_take hz] at hS2
    refine wpAny_pure ⟨plainId_quiet F.plain_set_update_loop _, ih (i + 1) _ (by omega) lt (W.frame _ s' _ _ st' (Nat.le_succ _) fun b hb o e => ?_) hS2 fun s2 m2 hS3 => ?_⟩
    · rw [ob.2 b (fun h : b = S => hSf (h ▸ hb))]; exact e
    · refine hR s2 (Moved.trans W.gtrans ((m.mono sb).then_heap (Nat.le_succ _) fun b o hb e => ?_) m2) hS3
      rw [ob.2 b (fun h : b = S => hb (h ▸ List.mem_cons_self))]; exact e
theorem strs_get {zs : List Str} {us : List Value} (h : Vals (zs.map V.str) us) : ∀ (i : Nat) (v : Value), us[i]? = some v → ∃ z t, zs[i]? = some z ∧ v = .str z t := by
  induction zs generalizing us with
  | nil => cases h; intro i v e; simp at e
  | cons z zs ih =>
    cases h with
    | cons r t =>
      obtain ⟨τ, rfl⟩ := r
      intro i v e
      cases i with
      | zero => simp at e; exact ⟨z, τ, rfl, e.symm⟩
      | succ i => simp at e; simpa using ih t i v e
set_option maxHeartbeats 8000000 in
theorem ss_call {l : Addr} {its : Array Value} (zs : List Str) {Q : Value → Shared → Prop} (hh : A.handled = none) (hl : s.heap.IsList l its) (hv : Vals (zs.map V.str) its.toList) (hb : zs.length + 1 < scanBound)
    (h : ∀ (h' : Heap) (tk : Nat), SsR P w h' s.heap.objs.size (dedup zs) → (∀ b o, s.heap.get? b = some o → h'.get? b = some o) → Q (.ref s.heap.objs.size) { s with heap := h', toks := tk }) :
    wpAny (model P w) A (call (.type "set") [.ref l]) Q E s := by
  have sz : its.size = zs.length := by
    have q := hv.length
    rw [List.length_map, Array.length_toList] at q
    exact q.symm
  obtain ⟨cc, tl, hmro⟩ := F.called_set.mro
  have x1 := F.called_set.made; have x2 := F.called_set.sub
  refine wpAny_call (codeAny_of_tree ?_)
  show wpAny _ _ (callAny (.type "set") _) _ _ _
  refine wpAny_pure ⟨Code.quiet_builtin _ (by decide +kernel), codeAny_builtin F.entry_type_call ?_⟩; rw [Around.under_plain (weight_type_call_type "set" [.ref l] []) rfl]
  have x3 := F.called_set.notType; have x4 := F.called_set.canCreate; have x5 := F.typeCall_set_1 (.ref l)
  repeat (any_goals (first | assumption | wp_step))
  refine codeAny_mono (code_set_led1 (.ref l) (E := E) (Q₁ := fun ob s₁ => ob = .ref s.heap.objs.size ∧ s₁ = { s with heap := s.heap.push (s0 w) }) ⟨rfl, rfl⟩) fun r s₁ hr => ?_
  cases r with
  | error e => exact hr
  | ok fl =>
    cases fl with
    | ret ob =>
      obtain ⟨rfl, rfl⟩ := hr
      have hS : (s.heap.push (s0 w)).get? s.heap.objs.size = some (s0 w) := Heap.get?_push_size _ rfl
      have hT : Shared.TypeIs { s with heap := s.heap.push (s0 w) } (.ref s.heap.objs.size) "set" := ⟨_, hS, rfl⟩
      have x6 := F.called_set.init.lookup; have x7 := F.called_set.init.bind (.ref s.heap.objs.size)
      repeat (any_goals (first | assumption | wp_step))
      refine codeAny_mono (codeAny_call_builtin (R := wants (fun r s₂ => r = .none ∧ ∃ h' tk, s₂ = { s with heap := h', toks := tk } ∧ SsR P w h' s.heap.objs.size (dedup zs) ∧ (∀ b o, s.heap.get? b = some o → h'.get? b = some o)) E) F.called_set.init.plain F.entry_set_init (check_set_init_1 hT ?_)) fun r₂ s₂ hr₂ => ?_
      · obtain ⟨⟨oc, od, odt, osl⟩, hol, hcl, nl, hdl⟩ := hl
        simp only at hcl hdl; subst hcl; subst hdl
        have hol2 : (s.heap.push (s0 w)).get? l = some { cls := .type "list", dict := od, data := .seq its nl, slots := osl } := Heap.get?_push_of_some _ hol
        have y1 := F.sub_list_set; have y2 := F.sub_list_frozenset
        have y3 : (Value.type "list" == Value.type "dict") = false := by decide
        have l1 : (s.heap.push (s0 w)).IsList l its := ⟨_, hol2, rfl, nl, rfl⟩
        unfold Builtin.«set.__init__» noKeywords Builtin.Frozenset.updateFrom
        generalize hPI : pyIter = PI
        wp_walk
        subst hPI
        refine wpAny_pyIter_list l1 (wpAny_bind (wpAny_runValue ?_))
        have ll : l < s.heap.objs.size := Heap.lt_size hol
        have h3 : A.in1.in1.in1.handled = none := by simp [hh]
        have z1 : (s.heap.push (s0 w)).objs.size = s.heap.objs.size + 1 := Heap.size_push ..
        have neI : l ≠ (s.heap.push (s0 w)).objs.size := by rw [z1]; exact Nat.ne_of_lt (Nat.lt_succ_of_lt ll)
        have hSf : s.heap.objs.size ∉ [(s.heap.push (s0 w)).objs.size, l] := by
          rw [z1]; simp only [List.mem_cons, List.not_mem_nil, or_false, not_or]
          exact ⟨Nat.ne_of_lt (Nat.lt_succ_self _), Nat.ne_of_gt ll⟩
        refine ss_loop ((Walks.list h3 _ l neI its).toS) s.heap.objs.size hSf zs sz hb (fun i v hv' => strs_get hv i v (by rw [Array.getElem?_toList]; exact hv')) (its.size - 0) 0 _ (by omega) (Nat.zero_le _) ⟨⟨_, Heap.get?_push_size _ rfl, rfl, rfl⟩, (l1.push _)⟩ ?z0 ?zR
        case z0 => exact ss_zero (Heap.get?_push_of_some _ hS)
        case zR =>
          intro s' m hS'
          obtain ⟨h', g2, d', tk', os'⟩ := s'
          have eg : g2 = s.gens := m.gens; have ed : d' = s.drawn := m.drawn; have eo : os' = s.os := m.os
          subst eg; subst ed; subst eo
          show wpAny _ _ _ _ _ _
          refine wpAny_pure ?_
          show wpAny _ _ (ret Value.none) _ _ _
          refine wpAny_pure ⟨rfl, h', tk', rfl, hS', fun b o e => ?_⟩
          have b0 : b < s.heap.objs.size := Heap.lt_size e
          refine m.heap b o ?_ (Heap.get?_push_of_some _ (Heap.get?_push_of_some _ e))
          rw [z1]; simp only [List.mem_cons, List.not_mem_nil, or_false, not_or]
          exact ⟨Nat.ne_of_lt b0, Nat.ne_of_lt (Nat.lt_succ_of_lt b0)⟩
      · cases r₂ with
        | error e => exact hr₂
        | ok fl₂ =>
          cases fl₂ with
          | ret r =>
            obtain ⟨rfl, h', tk, rfl, hS', hk'⟩ := hr₂
            repeat (any_goals (first | assumption | wp_step))
            exact h _ _ hS' hk'
          | _ => exact hr₂.elim
    | _ => exact hr.elim
/-! ### sorted(set) -/
theorem strs_keys : ∀ (l : List (Int × Value)), (∀ e ∈ l, SgE P w e) → ∀ vs : List Value, vs.Perm (l.map (·.2)) → ∃ ss : List Str, PyProof.Rows.StrsAre vs ss ∧ ss.Perm (l.map sgo) := by
  intro l g vs pm
  refine ⟨vs.map fun v => (sgo (0, v)), ?_, ?_⟩
  · have all : ∀ v ∈ vs, ∃ z t, v = Value.str z t := fun v hv => by
      obtain ⟨e, he, q⟩ := List.mem_map.mp (pm.mem_iff.mp hv)
      obtain ⟨z, τ, h1, _⟩ := g e he
      exact ⟨z, τ, by rw [← q]; exact h1⟩
    clear pm
    induction vs with
    | nil => exact .nil
    | cons v vs ih =>
      obtain ⟨z, t, rfl⟩ := all v List.mem_cons_self
      exact .cons z t (ih fun u hu => all u (List.mem_cons_of_mem _ hu))
  · have q := pm.map fun v => (sgo (0, v))
    rw [List.map_map] at q
    exact q
theorem ss_sorted {Q : Value → Shared → Prop} (R : SsR P w s.heap a L) (hh : A.handled = none) (few : L.length < 64)
    (hQ : ∀ s' p (out : Array Value) (c : Nat) (ys : List Str), (∀ b o, s.heap.get? b = some o → s'.heap.get? b = some o) → s'.gens = s.gens → s'.os = s.os → s.heap.objs.size ≤ p →
      s'.heap.get? p = some (seqObj "list" out c) → PyProof.Rows.StrsAre out.toList ys → ys.Perm L → PyProof.Rows.sortedS ys = true → Q (.ref p) s') :
    wpAny (model P w) A (call (.builtin "sorted") [.ref a]) Q E s := by
  obtain ⟨o, es, ep, t, ho, hx, hd, g, pm0, nd, tk⟩ := R
  refine Calls.call_function_entry kind_sorted plain_sorted entry_sorted (args_sorted1 _) ?_
  unfold Builtin.«sorted»
  refine wpAny_bind (m := checkCount "sorted" 1 1 _) (wpAny_pure ?_)
  refine wpAny_bind (collect_set (A := A.in1) hh ⟨o, ho, hx.1, hd⟩ tk.fit tk.few tk.ris tk.led fun s1 vs k1 hz g1 o1 pm => ?_)
  obtain ⟨ss, hs, ps⟩ := strs_keys es.toList g vs pm
  have lv : vs.length < 64 := by
    rw [pm.length_eq, List.length_map]
    have := pm0.length_eq
    rw [List.length_map] at this
    omega
  refine wpAny_bind (wpAny_newList ?_ (by rw [sizeLine_eq]; omega))
  have hoL : (s1.heap.push (seqObj "list" vs.toArray 0)).get? s1.heap.objs.size = some (seqObj "list" vs.toArray 0) := Heap.get?_push_size _ rfl
  refine wpAny_bind (wpAny_holding (wpAny_call_entry slot_list_sort ⟨_, hoL, rfl⟩ entry_list_sort (PyProof.Rows.list_sort_treeK PyProof.Rows.strKind_oneLt hoL hs.keysOf (fun v₁ v₂ rest e => PyProof.Rows.keyKind_strs (by rw [← e]; exact hs)) lv fun st' hp hso => ⟨_, rfl, ?_⟩) (args_list_sort _)))
  obtain ⟨ys, h1, h2, h3⟩ := PyProof.Rows.sorted_out_str hs hp hso
  obtain ⟨c, hc⟩ := sortedHeap_at (vs := vs) (out := (arrOf st').map (·.2)) hoL
  refine wpAny_pure ⟨_, rfl, hQ _ s1.heap.objs.size _ c ys (fun b u e => ?_) g1 o1 hz hc h1 (h2.trans (ps.trans pm0)) h3⟩
  have q := k1 b u e; have lt := Heap.lt_size q
  show (sortedHeap (s1.heap.push (seqObj "list" vs.toArray 0)) s1.heap.objs.size vs ((arrOf st').map (·.2))).get? b = some u
  rw [sortedHeap_old (Nat.ne_of_lt lt) (by rw [size_push']; exact Nat.lt_succ_of_lt lt)]; exact Heap.get?_push_of_some _ q
end
end RX
set_option Elab.async false
set_option linter.all false
set_option maxRecDepth 100000
set_option maxHeartbeats 4000000
/-! XC1: an own exception class over a class over ValueError, whose __init__ says super().__init__() and keeps one field: how one is made. -/
namespace RX
open PySem PySem.Spec PySem.W PySem.Calls PyProof.Rows L2

/-- what such a class's __init__ looks like -/
def xiArgs (f : Str) (p1 p2 : Pos) : Arguments := { posonlyargs := [], args := [{ arg := "self", annotation := none, pos := p1 }, { arg := f, annotation := none, pos := p2 }], vararg := none, kwonlyargs := [], kw_defaults := [], kwarg := none, defaults := [] }
def xiBody (f : Str) (p0 p1 p2 p3 p4 q0 q1 q2 q3 : Pos) : List Stmt := [.Expr (.Call (.Attribute (.Call (.Name "super" p0) [] [] p1) "__init__" p2) [] [] p3) p4, .Assign [.Attribute (.Name "self" q0) f q1] (.Name f q2) q3]
def xiScope (f : Str) : Scope := { kind := .function, names := [("self", .local), (f, .local), ("__class__", .free), ("super", .globalImplicit)], isGenerator := false, isCoroutine := false, more := [] }
/-- what the written part says of an exception class at c -/
structure XbF (K : Frag) (c : Addr) : Prop where
  oc : OexC K c
  xf : XfC K c
  hcl : (clsIn K c).isSome = true
  ha : findIn K (.ref c) "__class__" = some (some (.builtin "object.__class__"))
  hn : specialIn K (.builtin "object.__class__") "__get__" = some (some (.builtin "getset_descriptor.__get__"))
  ht : takesIn K (.builtin "object.__class__") = some true
  hm : mroIn K c (.type "object") = some true
/-- what the written part says of the class at c, its __init__ at fI, its cell at cc, its code at cda -/
structure XcF (prog : Program) (K : Frag) (c fI cc cda : Addr) (f : Str) : Prop extends XbF K c where
  fin : f ∈ xFields
  noF : findIn K (.ref c) f = some none
  iC : findIn K (.ref c) "__init__" = some (some (.ref fI))
  tI : typeIn K (.ref fI) = some (.type "function")
  fn : ∃ (oc : Value) (od : Option Addr) (osl : Array (Option Value)) (name qual : Str) (p1 p2 : Pos) (body : List Stmt) (kV doc pm ct : Value) (an : Option Addr),
    K.lookup fI = some ⟨oc, od, .func (ksFn name qual (xiArgs f p1 p2) body (xiScope f) .none kV doc pm an (.ref cda) ct cc), osl⟩ ∧ codeIn K (.ref cda) qual = true ∧ ∃ r0 r1 r2 r3 r4 q0 q1 q2 q3 : Pos, body = xiBody f r0 r1 r2 r3 r4 q0 q1 q2 q3 ∧ (r2.endLine == r3.line) = true
  cell : ∃ cl cld csl, K.lookup cc = some ⟨cl, cld, .cell (some (.ref c)), csl⟩
  code : ∃ ccl cdd vs ccs file tf, K.lookup cda = some ⟨ccl, cdd, .fields vs, ccs⟩ ∧ vs[2]? = some (.str file tf) ∧ ((prog.main.file : Str) == file) = true
  sup : ks_superIn K c c "__init__" = some (some (.builtin "ValueError.__init__"))
  opq : nsIn K cStatics "thirdparty.any" = some none
  subV : subIn K (.ref c) (.type "ValueError") = some true
  mro : mroIn K c (.ref c) = some true
  top : (prog.main.scope.names.lookup ("super" : Str)).isSome = false

theorem xi_binds {s : Shared} {f : Str} (hf : f ∈ xFields) {name qual : Str} {p1 p2 : Pos} {body : List Stmt} {kV doc pm ct cdv : Value} {an : Option Addr} {cc : Addr} {a u : Value} :
    BindsTo s (ksFn name qual (xiArgs f p1 p2) body (xiScope f) .none kV doc pm an cdv ct cc) ⟨[a, u], []⟩ [("self", a), (f, u)] := by
  simp only [xFields, List.mem_cons, List.not_mem_nil, or_false] at hf
  rcases hf with rfl | rfl | rfl <;> exact .of_eq rfl
theorem xi_scope {f : Str} (hf : f ∈ xFields) : (xiScope f).names.lookup ("self" : Str) = some .local ∧ (xiScope f).names.lookup f = some .local ∧ (xiScope f).names.lookup ("__class__" : Str) = some .free ∧ (xiScope f).names.lookup ("super" : Str) = some .globalImplicit ∧ (f == ("__debug__" : Str)) = false ∧ f ≠ "self" := by
  simp only [xFields, List.mem_cons, List.not_mem_nil, or_false] at hf
  rcases hf with rfl | rfl | rfl <;> refine ⟨by decide, by decide, by decide, by decide, by decide, by decide⟩
theorem xi_bindsK {s : Shared} {f : Str} (hf : f ∈ xFields) {name qual : Str} {p1 p2 : Pos} {body : List Stmt} {kV doc pm ct cdv : Value} {an : Option Addr} {cc : Addr} {a u : Value} :
    BindsTo s (ksFn name qual (xiArgs f p1 p2) body (xiScope f) .none kV doc pm an cdv ct cc) ⟨[a], [(f, u)]⟩ [("self", a), (f, u)] := by
  simp only [xFields, List.mem_cons, List.not_mem_nil, or_false] at hf
  rcases hf with rfl | rfl | rfl <;> exact .of_eq rfl
/-- super().__init__() called: the args are laid anew -/
theorem xi_call {prog : Program} {w : World} {A : Around} {E : Value → Shared → Prop} {h : Heap} {g : Array GenState} {d : Drawn} {t : Nat} {os : OsState} {C u x t0 : Addr} {Q : Value → Shared → Prop} {nm q : Str} {N : Addr} {bs bm : List Value} {hdct : Bool} {sn : List Str} {sub : List Value} {ab : Bool} {col : Option Bool} {dd : Option Addr} {k0 k1 k2 k3 k5 : Option Value}
    (hC : h.get? C = some (excClassObj nm q C N bs bm hdct sn sub ab col dd k0 k1 k2 k3 k5 "ValueError.__new__")) (he : h.get? x = some (HandSPX.excO C t0)) (hu : h.get? u = some (kxs_mw "ValueError.__init__" x))
    (hq : ∀ h' t1, (∀ b o, b ≠ x → h.get? b = some o → h'.get? b = some o) → h'.get? x = some (HandSPX.excO C t1) → Q .none ⟨h', g, d, t, os⟩) :
    wpAny (model prog w) A (call (.ref u) []) Q E ⟨h, g, d, t, os⟩ := by
  refine wpAny_call (codeAny_of_tree ?_)
  show wpAny _ A.in1 (callAny (.ref u) ⟨[], []⟩) _ _ _
  simp only [callAny]
  refine wpAny_bind (wpAny_load hu ?_)
  simp only [kxs_mw, show (Value.type "method-wrapper" == Value.type "method" || Value.type "method-wrapper" == Value.type "builtin_function_or_method" || Value.type "method-wrapper" == Value.type "method-wrapper") = true by decide, if_true]
  refine KFB.if_so (by decide) ?_
  refine wpAny_bind (check_bound_init F.excBase_ValueError.toExcCallFacts hC he rfl ?_)
  refine wpAny_bind (wpAny_pure (wpAny_pure ?_))
  refine ⟨plainId_quiet F.excBase_ValueError.init.plain _, codeAny_builtin F.excBase_ValueError.initEntry ?_⟩
  exact exc_init_tree (cls := .ref C) (t0 := t0) (dv := none) (c2 := .none) (c3 := .none) (b4 := .bool false) (rest := []) he (Nat.zero_le _) (fun h' k e _ => hq h' _ k e)
theorem meth_eqB {o : Expr} {m : Str} {apos pos : Pos} {env : Env} (hl : (apos.endLine == pos.line) = true) :
    eval (.Call (.Attribute o m apos) [] [] pos) env = (do
      let ov ← attributeBase o m env (eval o env)
      standAt apos.atName
      let (f, first) ← holding [ov] (getMethod ov m (do return (← importBound o env).getD true))
      callWith pos f first (backTo pos (starEach [] env)) []) := by
  rw [arm_eval_Call]
  have hf : methodCallForm (([] : List Expr).length + ([] : List Keyword).length) (backTo pos (starEach [] env)) (backToKw pos (keywordEach [] env)) = true := rfl
  unfold methodCall methodCallPos calleeOf
  simp only [hf, hl, if_true, Bool.not_true, Bool.false_or, pure_bind]
  rfl
/-- the __init__ of such a class runs -/
theorem xi_run {prog : Program} {w : World} {A : Around} {s : Shared} {K : Frag} {c fI cc cda x t0 : Addr} {f : Str} {u : Value} {mg mb : Str → Option Value} {R : Result → Shared → Prop} (F : XcF prog K c fI cc cda f) (X : K.In s.heap) (G : s.heap.Ns mainGlobals mg) (hm : mg "super" = none)
    (G2 : s.heap.Ns builtinsNs mb) (hmb : mb "super" = some (.type "super")) (lim : s.heap.NoLimit) (hroom : A.depth < recursionLimit) (hx : s.heap.get? x = some (HandSPX.excO c t0)) (hKx : ∀ {o : Obj}, K.lookup x ≠ some o)
    (hq : ∀ h' tk' dx t1, (∀ b o, b ≠ x → s.heap.get? b = some o → h'.get? b = some o) → s.heap.objs.size ≤ dx → dx ≠ x → h'.get? x = some { cls := .ref c, dict := some dx, data := .fields #[.ref t1, .none, .none, .none, .bool false, .none] } →
      h'.Ns1 dx (fun y => if y = f then some u else none) → R (.ok (.ret .none)) ⟨h', s.gens, s.drawn, tk', s.os⟩) :
    ∀ args : Args, args = ⟨[.ref x, u], []⟩ ∨ args = ⟨[.ref x], [(f, u)]⟩ → codeAny (model prog w) A (.call (.ref fI) args) R s := by
  intro args hargs
  obtain ⟨oc, od, osl, name, qual, p1, p2, body, kV, doc, pm, ct, an, lk, hcd, r0, r1, r2, r3, r4, q0, q1, q2, q3, hbody, hline⟩ := F.fn
  subst hbody
  obtain ⟨cl, cld, csl, lcell⟩ := F.cell
  obtain ⟨ccl, cdd, vs, ccs, file, tf, lcode, hvs, hfile⟩ := F.code
  obtain ⟨nm, q, N, bs, bm, sn, sub, ab, col, dd, k0, k1, k2, k3, k5, hC, hbm⟩ := F.oc.cls
  obtain ⟨s1, s2, s3, s4, s5, s6⟩ := xi_scope F.fin
  have hcl : clsIn K c = some { name := nm, bases := bs, mro := .ref c :: bm, ns := N, qualname := q, hasDict := true, slotNames := sn, subclasses := sub, abstract := ab, collection := col, hasDel := false } := by unfold clsIn; rw [hC] <;> rfl
  refine ks_codeAny_call_defAt (fd := ksFn name qual (xiArgs f p1 p2) (xiBody f r0 r1 r2 r3 r4 q0 q1 q2 q3) (xiScope f) .none kV doc pm an (.ref cda) ct cc) (body := xiBody f r0 r1 r2 r3 r4 q0 q1 q2 q3) (binds := [("self", .ref x), (f, u)]) hroom (X _ _ lk) rfl lim (codeRec_of X hcd) rfl (by rcases hargs with rfl | rfl; exact xi_binds F.fin; exact xi_bindsK F.fin) ?_ ?_ (fun h₁ hns hk₁ => ?_)
  · intro y hy
    simp only [xiScope, ksFn, fnX, List.mem_cons, List.not_mem_nil, or_false] at hy
    rcases hy with rfl | rfl | rfl | rfl <;> (intro z; cases z)
  · intro y hy
    simp only [List.mem_cons, List.not_mem_nil, or_false] at hy
    rcases hy with rfl | rfl
    · exact s1
    · exact s2
  have X1 : K.In h₁ := X.keeps hk₁
  have hx1 := hk₁ _ _ hx
  have IA : InstAt h₁ x (HandSPX.excO c t0) c none := ⟨hx1, rfl, rfl, trivial⟩
  obtain ⟨oD, hD1, hD2⟩ : ∃ oD, h₁.get? c = some oD ∧ ∃ cd, oD.data = .cls cd := ⟨_, X1 _ _ hC, _, rfl⟩
  obtain ⟨cdD, hD2⟩ := hD2
  have hI : Looks (model prog w) h₁ (isInstance (.ref x) (.type "ValueError")) true := IA.type.andThen (looks_subIn X1 F.subV)
  have hsub : Looks (model prog w) h₁ (isSubtype (.ref c) (.ref c)) true := looks_mroIn X1 F.mro
  refine ks_wpAt_execs_cons (ks_wpAt_Expr_any (ks_wpAt_MethodCall (ks_wpAt_super_base (env := callEnv (ksFn name qual (xiArgs f p1 p2) (xiBody f r0 r1 r2 r3 r4 q0 q1 q2 q3) (xiScope f) .none kV doc pm an (.ref cda) ct cc) s.heap.objs.size fI) s4 s3 (by decide) rfl (X1 _ _ lk) rfl rfl rfl (X1 _ _ lcode) rfl hvs hfile F.top ?_) (meth_eqB hline)))
  refine ks_loadName_global rfl s4 (loadGlobal_builtin (G.keeps hk₁) hm (G2.keeps hk₁) hmb ⟨rfl, ?_⟩)
  refine wpAny_loadName_free rfl s3 rfl ⟨_, X1 _ _ lcell, rfl⟩ ?_
  have lS : (List.lookup ("self" : Str) [(f, u), (("self" : Str), Value.ref x)]) = some (.ref x) := by
    have e : (("self" : Str) == f) = false := beq_eq_false_iff_ne.mpr (Ne.symm s6)
    simp [List.lookup, e]
  have lF : (List.lookup f [(f, u), (("self" : Str), Value.ref x)]) = some u := by simp [List.lookup]
  refine wpAny_loadName_local rfl s1 hns lS ?_
  refine ks_wpAny_isType_cls hD1 hD2 ⟨rfl, ?_⟩
  refine ks_wpAny_call_super hD1 hD2 hx1 rfl (fun c e => by cases e) hsub (fun h2 e2 k2 => ?_)
  have X2 : K.In h2 := X1.keeps k2
  have hx2 := k2 _ _ hx1
  have xC : x ≠ c := fun z => by
    rw [z] at hx1
    rw [X1 _ _ hC] at hx1
    cases hx1
  have hm2 : Looks (model prog w) h2 (mroOf (.ref c)) (.ref c :: bm) := (looks_clsIn X2 hcl).andThen .now
  have hal : alongIn K "__init__" (((Value.ref c :: bm).dropWhile (· != .ref c)).drop 1) = some (some (.builtin "ValueError.__init__")) := by
    have z := F.sup
    unfold ks_superIn at z
    rw [hcl] at z
    exact z
  refine kxs_getMethod kxs_ValueError e2 (looks_opaque X2 F.opq) hm2 rfl X2 hal (hI.keeps k2) xC (by decide) ?_
  have k3 : ∀ b o, h2.get? b = some o → (h2.push (kxs_mw "ValueError.__init__" x)).get? b = some o := fun b o e => Heap.get?_push_of_some _ e
  refine kxs_callWith (i := "ValueError.__init__") (x := x) rfl (evalArgs_empty ⟨Heap.get?_push_at rfl rfl, ?_⟩)
  refine xi_call (k3 _ _ (X2 _ _ hC)) (k3 _ _ hx2) (Heap.get?_push_at rfl rfl) (fun h4 t1 k4 e4 => ?_)
  have X4 : K.In h4 := fun b o z => k4 b o (fun e => hKx (e ▸ z)) (k3 _ _ (X2 _ _ z))
  have xL : s.heap.objs.size ≠ x := Nat.ne_of_gt (Heap.lt_size hx)
  have hns4 : h4.Ns s.heap.objs.size (fun y => [(("self" : Str), Value.ref x), (f, u)].reverse.lookup y) := by
    obtain ⟨oL, es, ep, hL, r⟩ := hns
    exact ⟨oL, es, ep, k4 _ _ xL (k3 _ _ (k2 _ _ hL)), r⟩
  refine ks_wpAt_execs_cons (ks_wpAt_Assign_Attr ?_ ?_)
  · refine PySem.wpAt_of_wpAny (wpAny_Name (wpAny_loadName_local rfl s2 hns4 lF ?_) s5)
    refine wpAny_Name (wpAny_loadName_local rfl s1 hns4 lS ?_) (by decide)
    refine set_plain X4 (ox := { cls := .ref c, dict := none, data := .fields #[.ref t1, .none, .none, .none, .bool false, .none] }) (od := none) ⟨e4, rfl, rfl, trivial⟩ F.oc.sa ?_
    refine HandSPX.exc_osa X4 e4 hcl (show HandSPX.refsVE (.ref c :: bm) = true from hbm) rfl F.noF (fun h' tk' dx k dn dne hx' hn => ?_)
    refine PySem.wpAt_of_wpAny (wpAny_execs_nil ?_)
    obtain ⟨oL, _, _, hL, _⟩ := hns4
    exact hq h' tk' dx t1 (fun b o hb z => k b o hb (k4 b o hb (k3 _ _ (k2 _ _ (hk₁ _ _ z))))) (Nat.le_trans (Nat.le_of_lt (Heap.lt_size hL)) dn) dne hx' hn
  · rfl
end RX
set_option Elab.async false
set_option linter.all false
set_option maxRecDepth 100000
set_option maxHeartbeats 4000000
/-! XC2: C(x): a new exception, in a state of ours. -/
namespace RX
open PySem PySem.Spec PySem.W PySem.Calls PyProof.Rows L2

abbrev xObj (c dx t : Addr) : Obj := { cls := .ref c, dict := some dx, data := .fields #[.ref t, .none, .none, .none, .bool false, .none] }
/-- behind C(x): the exception at a, its dict at dx; G: the heap without the exception -/
def XNew (X : Cx) (pins : List (Addr × Obj)) (σ : SV) (H : Hp) (c : Addr) (f : Str) (v : V) (u : Value) (s' : Shared) : Prop :=
  ∃ (a dx t : Addr) (o : Obj) (G : Heap), u = .ref a ∧ H a = none ∧ H dx = none ∧ dx ≠ a ∧ Inv X pins σ (upd H dx (.frz o (.xd [(f, v)]))) { s' with heap := G } ∧ (∀ b o, G.get? b = some o → s'.heap.get? b = some o) ∧ G.get? a = none ∧ s'.heap.get? a = some (xObj c dx t)
section
variable {X : Cx} {pins : List (Addr × Obj)} {σ : SV} {H : Hp} {s : Shared} {c fI cc cda : Addr} {f : Str} {v : V} {u : Value}
/-- the heap behind C(x) -/
theorem xnew_of {a dx t1 tk' : Nat} {h2 : Heap} {g : Array GenState} {d : Drawn} (I : Inv X pins σ H s) (hg : g = s.gens) (hd : d = s.drawn) (rv : RelV v u) (sa : s.heap.objs.size ≤ a) (sd : s.heap.objs.size ≤ dx) (dne : dx ≠ a) (k : ∀ b o, s.heap.get? b = some o → h2.get? b = some o)
    (ha : h2.get? a = some (xObj c dx t1)) (hn : h2.Ns1 dx (fun y => if y = f then some u else none)) : XNew X pins σ H c f v (.ref a) ⟨h2, g, d, tk', s.os⟩ := by
  subst hg hd
  obtain ⟨G, g1, g2⟩ := restrict h2 fun b => decide (b ≠ a)
  have gk : ∀ b, b ≠ a → G.get? b = h2.get? b := fun b hb => g1 b (decide_eq_true hb)
  have ge : G.get? a = none := g2 a (by simp)
  have nha : ∀ {b : Addr} {o : Obj}, s.heap.get? b = some o → b ≠ a := fun {b o} z => Nat.ne_of_lt (Nat.lt_of_lt_of_le (Heap.lt_size z) sa)
  have hnG : G.Ns1 dx (fun y => if y = f then some u else none) := hn.at fun o y => (gk dx dne).trans y
  obtain ⟨o, es, ep, ho, hr⟩ := id hnG
  refine ⟨a, dx, t1, o, G, rfl, I.hok.fresh sa, I.hok.fresh sd, dne, ?_, fun b ob z => ?_, ge, ha⟩
  · refine I.laid (t' := tk') (h' := G) (fun b ob z => (gk b (nha z)).trans (k b ob z)) sd ⟨ho, _, hnG, fun y => ?_⟩
    by_cases e : y = f
    · subst e
      simp only [List.lookup_cons, beq_self_eq_true, if_true]
      exact rv
    · have e' : (y == f) = false := beq_eq_false_iff_ne.mpr e
      simp only [List.lookup_cons, e', List.lookup_nil, if_neg e]
      exact True.intro
  · by_cases hb : b = a
    · rw [hb, ge] at z
      cases z
    · exact (gk b hb).symm.trans z
theorem xmk_call (F : XcF X.prog X.K c fI cc cda f) (I : Inv X pins σ H s) (hm : X.mg "super" = none) (hr : Room 1 X.A) (rv : RelV v u) : wpAny (model X.prog X.w) X.A (call (.ref c) [u]) (XNew X pins σ H c f v) X.xe s := by
  obtain ⟨nm, q, N, bs, bm, sn, sub, ab, col, dd, k0, k1, k2, k3, k5, hC, hbm⟩ := F.oc.cls
  have Rm := hr.make c [u] []
  obtain ⟨hp, g, dr, tk, os⟩ := s
  have kk : ∀ b o, hp.get? b = some o → ((hp.push (kdv_tup [u])).push (HandSPX.excO c hp.objs.size)).get? b = some o := fun b o e => Heap.get?_push_of_some _ (Heap.get?_push_of_some _ e)
  have hget : ((hp.push (kdv_tup [u])).push (HandSPX.excO c hp.objs.size)).get? (hp.objs.size + 1) = some (HandSPX.excO c hp.objs.size) := by heap_get
  have KI := I.kIn
  obtain ⟨mb, G2, hmb⟩ := I.mod.blt
  have bk : ∀ b o, X.base.get? b = some o → ((hp.push (kdv_tup [u])).push (HandSPX.excO c hp.objs.size)).get? b = some o := fun b o e => kk b o (I.bk b o e)
  refine wpAny_call (HandSPX.call_own PySem.F.excBase_ValueError (fun Y => HandSPX.refsVE_contains Y bm hbm) (KI _ _ hC) (looks_findIn KI F.iC) (fun self => bind_fn KI self F.tI) (by rw [sizeLine_eq]; show 1 ≤ _; omega)
    (xi_run F (KI.keeps kk) (I.mod.glob.keeps bk) hm (G2.keeps bk) ((hmb _ (by decide)).trans (by decide +kernel)) (I.nolimit.keeps kk) Rm.depth hget (fun {o} z => ?_) (fun h' tk' dx t1 k4 sz dne hx' hn => ⟨rfl, ?_⟩) _ (.inl rfl)))
  · exact absurd (Heap.lt_size (KI _ _ z)) (by show ¬ hp.objs.size + 1 < hp.objs.size; omega)
  · have ssz : ((hp.push (kdv_tup [u])).push (HandSPX.excO c hp.objs.size)).objs.size = hp.objs.size + 1 + 1 := by rw [Heap.size_push, Heap.size_push]
    rw [ssz] at sz
    exact xnew_of (s := ⟨hp, g, dr, tk, os⟩) I rfl rfl rv (Nat.le_succ _) (Nat.le_trans (by show hp.objs.size ≤ hp.objs.size + 1 + 1; omega) sz) dne (fun b o e => k4 b o (Nat.ne_of_lt (Nat.lt_succ_of_lt (Heap.lt_size e))) (kk b o e)) hx' hn
end
end RX
set_option Elab.async false
set_option linter.all false
set_option maxRecDepth 100000
set_option maxHeartbeats 4000000
/-! RX2: a compact syntax and its wishes. -/
namespace RX
open PySem PySem.Spec PyProof.Rows L2

inductive Ty where
  | bt (n : String) | own (C : Str)
  deriving DecidableEq
/-- built-in functions and types that are called by name -/
inductive BF where
  | len | int | str | tuple | list | abs | all | any | sum | sorted | repr | min | max | divmod | dict
  deriving DecidableEq
/-- methods of built-in types -/
inductive BM where
  | append | extend | pop0 | pop1 | get2 | setdefault | upper | index | count | split | join
  deriving DecidableEq

/-- methods of dicts whose keys are tuples -/
inductive NM where
  | get2 | setd2
  deriving DecidableEq
mutual
inductive CE where
  | var (i : Nat) | glb (x : Str) | int (i : Int) | str (x : Str) | bl (b : Bool) | non
  | bin (o : Operator) (fz : Bool) (a b : CE)
  | neg (a : CE)
  | tst (t : CT)
  | ifx (c : CT) (a b : CE)
  | tup (es : CEs)
  | lst (fz : Bool) (es : CEs)
  | dct (fz : Bool) (ks vs : CEs)
  | dcs (ks : List Str) (vs : CEs)
  | lc (fz : Bool) (elt : CE) (g : CG) (it : CI) (ifs : CTs) (own : List (Str × Nat))
  | dc (fz : Bool) (k v : CE) (g : CG) (it : CI) (own : List (Str × Nat))
  | call (f : Str) (args : CEs)
  | callk (f : Str) (args : CEs) (ks : List Str) (kws : CEs)
  | make (C : Str) (args : CEs)
  | meth (m : Str) (o : CE) (args : CEs)
  | fld (o : CE) (f : Str)
  | ix (a b : CE)
  | slc (fz : Bool) (a : CE) (lo hi : CO)
  | rev (fz : Bool) (a : CE)
  | fn (b : BF) (fz : Bool) (args : CEs)
  | bm (m : BM) (o : CE) (args : CEs)
  | frz (e : CE)
  | frzd (e : CE)
  | lenset (e : CE)
  | sortset (fz : Bool) (e : CE)
  | nnew
  | nm (m : NM) (o : CE) (args : CEs)
  | nix (o k : CE)
  | nlen (e : CE)
  | nlist (fz : Bool) (e : CE)
  | ndc (k v : CE) (g : CG) (it : CI) (own : List (Str × Nat))
  | lc2 (fz : Bool) (elt : CE) (g : CG) (it : CI) (ifs : CTs) (own : List (Str × Nat)) (g1 : CG) (e1 : CE) (ifs1 : CTs) (own1 : List Nat)
  | lrange1 (fz : Bool) (a : CE)
  | nevE
  | mkx (C f : Str) (kw : Bool) (e : CE)
  | mkx0 (C : Str)
  | reprd (e : CE)
  | heard (T g : Str) (hd : HD) (c : CE)
  | xfld (e : CE) (f : Str) (Cs : List Str)
inductive CO where
  | no | yes (e : CE)
inductive CEs where
  | nil | cons (e : CE) (es : CEs) | star (e : CE) (es : CEs) | starD (e : CE) (es : CEs)
inductive CT where
  | val (e : CE) | tru (e : CE)
  | cmp (o : CmpOp) (a b : CE)
  | chain (o o' : CmpOp) (a b c : CE)
  | and (a b : CT) | or (a b : CT) | not (a : CT)
  | isi (e : CE) (ts : List Ty)
  | nin (neg : Bool) (a b : CE)
  | xis (e : CE) (ds : List XT) (tab : List (Str × Bool))
inductive CTs where
  | nil | cons (t : CT) (ts : CTs)
inductive CI where
  | seq (e : CE) | range1 (a : CE) | range2 (a b : CE) | enum (e : CE) | zip (a b : CE) | items (e : CE) | values (e : CE)
inductive CG where
  | name (i : Nat) | tup (gs : CGs) | sub (o i : CE) | nsub (o i : CE) | lup (gs : CGs)
inductive CGs where
  | nil | cons (g : CG) (gs : CGs)
end
mutual
inductive CS where
  | expr (e : CE)
  | asg (g : CG) (e : CE)
  | setLc (i : Nat) (fz : Bool) (elt : CE) (g : CG) (it : CI) (ifs : CTs) (own : List (Str × Nat))
  | setLc2 (i : Nat) (fz : Bool) (elt : CE) (g : CG) (it : CI) (ifs : CTs) (own : List (Str × Nat)) (g1 : CG) (e1 : CE) (ifs1 : CTs) (own1 : List Nat)
  | setf (o : CE) (f : Str) (e : CE)
  | par2 (i j : Nat) (a b : CE)
  | aug (i : Nat) (o : Operator) (e : CE)
  | ret (e : CE) | retN
  | ite (c : CT) (a b : CSs)
  | for_ (g : CG) (it : CI) (b : CSs)
  | while_ (c : CT) (b : CSs)
  | pass | brk | cont
  | never
  | raise (C f : Str) (kw : Bool) (e : CE)
  | try1 (all : List Str) (C : Str) (subs : List Str) (i : Nat) (hot : List (Str × List (Str × HV))) (body : CSs) (h : HE)
inductive CSs where
  | nil | cons (s : CS) (ss : CSs)
end

/-! ### what the operations ask -/
def xcls : D → Option Str
  | .exc C _ _ => some C
  | .exn C => some C
  | _ => none
abbrev XD := Str → List Str → List D → MM → Prop
abbrev ED := Str → List Str → List D → DSt → MM → Prop
abbrev EF0 : ED := fun _ _ _ _ _ => False
abbrev CallT := List D → MM → DV → XD → Prop
/-- what is known of the defs and of the module's names -/
structure Gam where
  par : Str → List Str
  has : Str → Str → Bool
  call : Str → CallT
  meth : Str → Str → CallT
  init : Str → CallT
  glob : Str → Option D
  fld : Str → Str → Bool
  wd : World

def lsOf (M : MM) : D → Option (List D)
  | .lst ds => some ds
  | .ref a => match M a with
    | some (.lst ds) => some ds
    | _ => none
  | _ => none
def sqOf (M : MM) : D → Option (List D)
  | .tup ds => some ds
  | x => lsOf M x
def dcOf (M : MM) : D → Option (List Key × List D)
  | .dct ks ds => some (ks, ds)
  | .ref a => match M a with
    | some (.dct ks ds) => some (ks, ds)
    | _ => none
  | _ => none
def keyOf : D → Option Key
  | .int i => some (.inl i)
  | .str x => some (.inr x)
  | _ => none
def kD : Key → D
  | .inl i => .int i
  | .inr x => .str x
def getKD (ks : List Key) (ds : List D) (k : Key) : Option D := ((ks.zip ds).find? fun kv => decide (kv.1 = k)).map (·.2)
def hasK (ks : List Key) (k : Key) : Bool := ks.any fun k' => decide (k' = k)
def putKD (ks : List Key) (ds : List D) (k : Key) (d : D) : List Key × List D :=
  if hasK ks k then (ks, List.zipWith (fun k' d' => if k' = k then d else d') ks ds) else (ks ++ [k], ds ++ [d])
def getFD (ks : List Str) (ds : List D) (f : Str) : Option D := (ks.zip ds).lookup f
def putFD : List Str → List D → Str → D → List Str × List D
  | k :: ks, d :: ds, f, x => if k = f then (k :: ks, x :: ds) else (k :: (putFD ks ds f x).1, d :: (putFD ks ds f x).2)
  | _, _, f, x => ([f], [x])
def newL (fz : Bool) (ds : List D) (M : MM) (Q : DV) : Prop := match fz with
  | true => Q (.lst ds) M
  | false => ∀ p, M p = none → Q (.ref p) (up M p (.lst ds))
def newD (fz : Bool) (ks : List Key) (ds : List D) (M : MM) (Q : DV) : Prop := match fz with
  | true => Q (.dct ks ds) M
  | false => ∀ p, M p = none → Q (.ref p) (up M p (.dct ks ds))
/-! a value as data -/
mutual
inductive Vw (M : MM) : D → PyData → Prop where
  | non : Vw M .non .none
  | bl (b : Bool) : Vw M (.bl b) (.bool b)
  | int (i : Int) : Vw M (.int i) (.int i)
  | str (x : Str) : Vw M (.str x) (.str x)
  | tup {ds : List D} {ps : List PyData} : VwL M ds ps → Vw M (.tup ds) (.tuple ps)
  | lst {ds : List D} {ps : List PyData} : VwL M ds ps → Vw M (.lst ds) (.list ps)
  | ref {a : Addr} {ds : List D} {ps : List PyData} : M a = some (.lst ds) → VwL M ds ps → Vw M (.ref a) (.list ps)
inductive VwL (M : MM) : List D → List PyData → Prop where
  | nil : VwL M [] []
  | cons {d : D} {p : PyData} {ds : List D} {ps : List PyData} : Vw M d p → VwL M ds ps → VwL M (d :: ds) (p :: ps)
end
/-! a value as data, empty dicts among it -/
mutual
inductive Vs (M : MM) : D → PyData → Prop where
  | non : Vs M .non .none
  | bl (b : Bool) : Vs M (.bl b) (.bool b)
  | int (i : Int) : Vs M (.int i) (.int i)
  | str (x : Str) : Vs M (.str x) (.str x)
  | tup {ds : List D} {ps : List PyData} : VsL M ds ps → Vs M (.tup ds) (.tuple ps)
  | lst {ds : List D} {ps : List PyData} : VsL M ds ps → Vs M (.lst ds) (.list ps)
  | dct0 : Vs M (.dct [] []) (.dict [])
inductive VsL (M : MM) : List D → List PyData → Prop where
  | nil : VsL M [] []
  | cons {d : D} {p : PyData} {ds : List D} {ps : List PyData} : Vs M d p → VsL M ds ps → VsL M (d :: ds) (p :: ps)
end
/-- == tells b -/
inductive EqR (M : MM) : D → D → Bool → Prop where
  | dat {x y : D} {p q : PyData} : Vw M x p → Vw M y q → SeqAt.shaped p = true → SeqAt.shaped q = true → EqR M x y (PyData.eqv p q)
  | len {x y : D} {xs ys : List D} : lsOf M x = some xs → lsOf M y = some ys → xs.length ≠ ys.length → EqR M x y false
  | tnil (x : D) (xs : List D) : EqR M (.tup (x :: xs)) (.tup []) false
/-- a value's kind: a built-in type's name, or a class of one's own -/
def tyOf (M : MM) : D → Option Ty
  | .non => some (.bt "NoneType") | .bl _ => some (.bt "bool") | .int _ => some (.bt "int") | .str _ => some (.bt "str") | .tup _ => some (.bt "tuple") | .lst _ => some (.bt "list") | .dct _ _ => some (.bt "dict")
  | .ref a => (match M a with
    | some (.lst _) => some (.bt "list")
    | some (.dct _ _) => some (.bt "dict")
    | some (.ins C _ _) => some (.own C)
    | some (.dn _ _) => none
    | some (.tbl _) => none
    | none => none)
  | .ty _ => none
  | .wtp _ => some (.bt "tuple")
  | .exc _ _ _ => none
  | .exn _ => none
inductive InR (M : MM) (x : D) (ys : List D) : Bool → Prop where
  | dat {ps : List PyData} {p : PyData} : VwL M ys ps → Vw M x p → PyData.canLayAll0 ps = true → SeqAt.shaped p = true → InR M x ys (ps.any fun q => PyData.eqv q p)
  | txt {z : Str} {zs : List Str} : x = .str z → ys = zs.map D.str → InR M x ys (decide (z ∈ zs))
  | odd {n : String} {zs : List Str} : tyOf M x = some (.bt n) → n ≠ "str" → ys = zs.map D.str → InR M x ys false
def inS (i j : Str) : Bool := !(Builtin.Str.occurrences j i 0 j.length 1).isEmpty
def rdEq (x y : D) (M : MM) (Q : Bool → MM → Prop) : Prop := match x, y with
  | .int i, .int j => Q (decide (i = j)) M
  | .str i, .str j => Q (decide (i = j)) M
  | x, y => ∃ b, EqR M x y b ∧ Q b M
def rdIn (x y : D) (M : MM) (Q : Bool → MM → Prop) : Prop := match y with
  | .str j => ∃ i, x = .str i ∧ Q (inS i j) M
  | .tup ys => ∃ b, InR M x ys b ∧ Q b M
  | .lst ys => ∃ b, InR M x ys b ∧ Q b M
  | .dct ks ds => ∃ k, keyOf x = some k ∧ Q (hasK ks k) M
  | y => (∃ ys b, lsOf M y = some ys ∧ InR M x ys b ∧ Q b M) ∨ ∃ ks ds k, dcOf M y = some (ks, ds) ∧ keyOf x = some k ∧ Q (hasK ks k) M
def rdIs (x y : D) (M : MM) (Q : Bool → MM → Prop) : Prop := match y with
  | .bl c => ∃ b, x = .bl b ∧ Q (decide (b = c)) M
  | y => y = .non ∧ ∃ b, (x = .non ↔ b = true) ∧ Q b M
def rdCmp : CmpOp → D → D → MM → (Bool → MM → Prop) → Prop
  | .Eq, x, y, M, Q => rdEq x y M Q
  | .NotEq, x, y, M, Q => rdEq x y M fun b M' => Q (!b) M'
  | .Lt, x, y, M, Q => ∃ i j, x = .int i ∧ y = .int j ∧ Q (decide (i < j)) M
  | .LtE, x, y, M, Q => ∃ i j, x = .int i ∧ y = .int j ∧ Q (decide (i ≤ j)) M
  | .Gt, x, y, M, Q => ∃ i j, x = .int i ∧ y = .int j ∧ Q (decide (j < i)) M
  | .GtE, x, y, M, Q => ∃ i j, x = .int i ∧ y = .int j ∧ Q (decide (j ≤ i)) M
  | .Is, x, y, M, Q => rdIs x y M Q
  | .IsNot, x, y, M, Q => y = .non ∧ ∃ b, (x = .non ↔ b = true) ∧ Q (!b) M
  | .In, x, y, M, Q => rdIn x y M Q
  | .NotIn, x, y, M, Q => rdIn x y M fun b M' => Q (!b) M'
def rdAdd (fz : Bool) (x y : D) (M : MM) (Q : DV) : Prop := match x, y with
  | .int i, .int j => Q (.int (i + j)) M
  | .str i, .str j => i.length + j.length ≤ sizeLine ∧ Q (.str (i ++ j)) M
  | .tup xs, .tup ys => xs.length + ys.length ≤ sizeLine ∧ Q (.tup (xs ++ ys)) M
  | x, y => ∃ xs ys, lsOf M x = some xs ∧ lsOf M y = some ys ∧ xs.length + ys.length ≤ sizeLine ∧ newL fz (xs ++ ys) M Q
def rdMul (fz : Bool) (x y : D) (M : MM) (Q : DV) : Prop := match x, y with
  | .int i, .int j => CMul i j ∧ Q (.int (i * j)) M
  | .tup xs, .int k => xs ≠ [] ∧ 0 ≤ k ∧ k ≤ 1000 ∧ xs.length ≤ 1000 ∧ Q (.tup (List.replicate k.toNat xs).flatten) M
  | .str z, .int k => (2 ≤ k ∧ k ≤ 1000 ∧ 1 ≤ z.length ∧ z.length ≤ 1000) ∧ Q (.str ⟨(List.replicate k.toNat z.cps).foldl (· ++ ·) #[]⟩) M
  | .ref a, .int k => ∃ xs, M a = some (.lst xs) ∧ 0 ≤ k ∧ k ≤ 1000 ∧ xs.length ≤ 1000 ∧ newL fz (List.replicate k.toNat xs).flatten M Q
  | _, _ => False
def rdBin : Operator → Bool → D → D → MM → DV → Prop
  | .Add, fz, x, y, M, Q => rdAdd fz x y M Q
  | .Sub, _, x, y, M, Q => ∃ i j, x = .int i ∧ y = .int j ∧ Q (.int (i - j)) M
  | .Mult, fz, x, y, M, Q => rdMul fz x y M Q
  | .FloorDiv, _, x, y, M, Q => ∃ i j, x = .int i ∧ y = .int j ∧ CDiv i j ∧ Q (.int (i / j)) M
  | .Mod, _, x, y, M, Q => ∃ i j, x = .int i ∧ y = .int j ∧ 0 < j ∧ Q (.int (i % j)) M
  | .Pow, _, x, y, M, Q => ∃ i j, x = .int i ∧ y = .int j ∧ CPow i j ∧ Q (.int (i ^ j.toNat)) M
  | _, _, _, _, _, _ => False
def rdIx (x y : D) (M : MM) (Q : DV) : Prop := match x, y with
  | .str z, .int i => ∃ c, z.length ≤ sizeLine ∧ atI z.cps.toList i = some c ∧ Q (.str ⟨#[c]⟩) M
  | .tup xs, .int i => ∃ d, atI xs i = some d ∧ Q d M
  | .lst xs, .int i => ∃ d, atI xs i = some d ∧ Q d M
  | .dct ks ds, y => ∃ k d, keyOf y = some k ∧ getKD ks ds k = some d ∧ Q d M
  | x, y => (∃ xs i d, lsOf M x = some xs ∧ y = .int i ∧ atI xs i = some d ∧ Q d M) ∨ ∃ ks ds k d, dcOf M x = some (ks, ds) ∧ keyOf y = some k ∧ getKD ks ds k = some d ∧ Q d M
def cutD (xs : List D) (lo hi : Option Int) : List D := (xs.drop (HT.sIx xs.length 0 lo)).take (HT.sIx xs.length xs.length hi - HT.sIx xs.length 0 lo)
def rdSl (fz : Bool) (x : D) (lo hi : Option Int) (M : MM) (Q : DV) : Prop := match x with
  | .tup xs => Q (.tup (cutD xs lo hi)) M
  | .str z => z.length ≤ sizeLine ∧ Q (.str (cutS z lo hi)) M
  | x => ∃ xs, lsOf M x = some xs ∧ newL fz (cutD xs lo hi) M Q
def rdRev (fz : Bool) (x : D) (M : MM) (Q : DV) : Prop := match x with
  | .tup xs => Q (.tup xs.reverse) M
  | x => ∃ xs, lsOf M x = some xs ∧ newL fz xs.reverse M Q
def isTy : Ty → Ty → Bool
  | .bt a, .bt b => a == b || (a == "bool" && b == "int")
  | .own a, .own b => a == b
  | _, _ => false
def rdIsi (ts : List Ty) (x : D) (M : MM) (Q : Bool → MM → Prop) : Prop := ∃ n, tyOf M x = some (.bt n) ∧ Q (ts.any (isTy (.bt n))) M
def truD (M : MM) : D → Option Bool
  | .non => some false | .bl b => some b | .int i => some (i != 0) | .str x => some (x.length != 0) | .tup xs => some (!xs.isEmpty) | .lst xs => some (!xs.isEmpty)
  | .ref a => (match M a with
    | some (.lst xs) => some (!xs.isEmpty)
    | _ => none)
  | _ => none
def rdLen (x : D) (M : MM) (Q : DV) : Prop := match x with
  | .str z => z.length ≤ sizeLine ∧ Q (.int z.length) M
  | .tup xs => Q (.int xs.length) M
  | .lst xs => Q (.int xs.length) M
  | .dct ks _ => Q (.int ks.length) M
  | x => (∃ xs, lsOf M x = some xs ∧ Q (.int xs.length) M) ∨ ∃ ks ds, dcOf M x = some (ks, ds) ∧ Q (.int ks.length) M
def rdInt1 (x : D) (M : MM) (Q : DV) : Prop := match x with
  | .int i => Q (.int i) M
  | .bl b => Q (.int (if b then 1 else 0)) M
  | _ => False
def rdTup1 (x : D) (M : MM) (Q : DV) : Prop := match x with
  | .tup xs => Q (.tup xs) M
  | x => ∃ xs, lsOf M x = some xs ∧ Q (.tup xs) M
def rdMin2 (x y : D) (M : MM) (Q : DV) : Prop := ∃ i j, x = .int i ∧ y = .int j ∧ Q (.int (if j < i then j else i)) M
def rdMax2 (x y : D) (M : MM) (Q : DV) : Prop := ∃ i j, x = .int i ∧ y = .int j ∧ Q (.int (if j > i then j else i)) M
def rdDivmod (x y : D) (M : MM) (Q : DV) : Prop := ∃ i j, x = .int i ∧ y = .int j ∧ CDiv i j ∧ Q (.wtp [.int (i / j), .int (i % j)]) M
def rdRepr (x : D) (M : MM) (Q : DV) : Prop := ∃ p, Vw M x p ∧ PyData.showable p = true ∧ p.depth ≤ 64 ∧ p.shown.length ≤ sizeLine ∧ Q (.str p.shown) M
def rdReprD (x : D) (M : MM) (Q : DV) : Prop := ∃ p, Vs M x p ∧ PyData.showable p = true ∧ p.depth ≤ 64 ∧ p.shown.length ≤ sizeLine ∧ Q (.str p.shown) M
/-- pairs -/
def prD : List D → Option (List (Key × D))
  | [] => some []
  | .tup [k, v] :: r => match keyOf k, prD r with
    | some k, some l => some ((k, v) :: l)
    | _, _ => none
  | _ => none
def mergeD (ks : List Key) (ds : List D) : List (Key × D) → List Key × List D
  | [] => (ks, ds)
  | kv :: r => mergeD (putKD ks ds kv.1 kv.2).1 (putKD ks ds kv.1 kv.2).2 r
def rdDict (fz : Bool) (x : D) (M : MM) (Q : DV) : Prop := match x with
  | .dct ks ds => newD fz ks ds M Q
  | .ref a => (∃ ks ds, M a = some (.dct ks ds) ∧ newD fz ks ds M Q) ∨ (∃ xs l, sqOf M (.ref a) = some xs ∧ prD xs = some l ∧ newD fz (mergeD [] [] l).1 (mergeD [] [] l).2 M Q)
  | x => (∃ xs l, sqOf M x = some xs ∧ prD xs = some l ∧ newD fz (mergeD [] [] l).1 (mergeD [] [] l).2 M Q)
def rdLenSet (x : D) (M : MM) (Q : DV) : Prop := ∃ zs : List Str, lsOf M x = some (zs.map D.str) ∧ zs.length < 1000 ∧ Q (.int (dedup zs).length) M
def rdSortSet (fz : Bool) (x : D) (M : MM) (Q : DV) : Prop := ∃ zs : List Str, lsOf M x = some (zs.map D.str) ∧ zs.length < 64 ∧ ∀ ys : List Str, ys.Perm (dedup zs) → sortedS ys = true → newL fz (ys.map D.str) M Q
/-- sorted(x): a dict whose keys are texts, or a list of texts, or of numbers -/
def rdSorted (fz : Bool) (x : D) (M : MM) (Q : DV) : Prop := (∃ ks ds, ∃ zs : List Str, dcOf M x = some (ks, ds) ∧ ks = zs.map Sum.inr ∧ zs.length < 64 ∧ ∀ ys : List Str, ys.Perm zs → sortedS ys = true → newL fz (ys.map D.str) M Q) ∨
  (∃ zs : List Str, lsOf M x = some (zs.map D.str) ∧ zs.length < 64 ∧ ∀ ys : List Str, ys.Perm zs → sortedS ys = true → newL fz (ys.map D.str) M Q) ∨
  (∃ is : List Int, lsOf M x = some (is.map D.int) ∧ ∀ js : List Int, js.Perm is → js.Pairwise (· ≤ ·) → newL fz (js.map D.int) M Q) ∨
  (∃ bs : List (D × PyData), lsOf M x = some (bs.map (·.1)) ∧ (∀ b ∈ bs, Vw M b.1 b.2) ∧ PySem.W.AllAlike (bs.map (·.2)) ∧ PySem.W.Sortable (bs.map (·.2)) ∧ (∀ b ∈ bs, b.2.depth ≤ 64) ∧ bs.length ≤ sizeLine ∧ newL fz ((bs.mergeSort (PySem.W.dataLe false (·.2))).map (·.1)) M Q)
def rdF : BF → Bool → List D → MM → DV → Prop
  | .len, _, [x], M, Q => rdLen x M Q
  | .int, _, [x], M, Q => rdInt1 x M Q
  | .str, _, [x], M, Q => ∃ i, x = .int i ∧ i.natAbs.log2 < 1920 ∧ Q (.str (toString i)) M
  | .tuple, _, [x], M, Q => rdTup1 x M Q
  | .list, fz, [x], M, Q => ∃ xs, sqOf M x = some xs ∧ newL fz xs M Q
  | .abs, _, [x], M, Q => ∃ i, x = .int i ∧ Q (.int (if i < 0 then -i else i)) M
  | .all, _, [x], M, Q => ∃ bs : List Bool, lsOf M x = some (bs.map D.bl) ∧ Q (.bl (bs.all id)) M
  | .any, _, [x], M, Q => ∃ bs : List Bool, lsOf M x = some (bs.map D.bl) ∧ Q (.bl (bs.any id)) M
  | .sum, _, [x], M, Q => ∃ is : List Int, lsOf M x = some (is.map D.int) ∧ Q (.int is.sum) M
  | .min, _, [x, y], M, Q => rdMin2 x y M Q
  | .max, _, [x, y], M, Q => rdMax2 x y M Q
  | .max, _, [x], M, Q => ∃ is : List Int, lsOf M x = some (is.map D.int) ∧ is ≠ [] ∧ ∀ m ∈ is, (∀ i ∈ is, i ≤ m) → Q (.int m) M
  | .min, _, [x], M, Q => ∃ is : List Int, lsOf M x = some (is.map D.int) ∧ is ≠ [] ∧ ∀ m ∈ is, (∀ i ∈ is, m ≤ i) → Q (.int m) M
  | .divmod, _, [x, y], M, Q => rdDivmod x y M Q
  | .repr, _, [x], M, Q => rdRepr x M Q
  | .dict, fz, [x], M, Q => rdDict fz x M Q
  | .sorted, fz, [x], M, Q => rdSorted fz x M Q
  | _, _, _, _, _ => False
def rdM : BM → D → List D → MM → DV → Prop
  | .append, o, [x], M, Q => ∃ p xs, o = .ref p ∧ M p = some (.lst xs) ∧ xs.length < sizeLine ∧ Q .non (up M p (.lst (xs ++ [x])))
  | .extend, o, [x], M, Q => ∃ p xs ys, o = .ref p ∧ M p = some (.lst xs) ∧ lsOf M x = some ys ∧ xs.length + ys.length ≤ sizeLine ∧ Q .non (up M p (.lst (xs ++ ys)))
  | .pop0, o, [], M, Q => ∃ p xs y, o = .ref p ∧ M p = some (.lst xs) ∧ xs[xs.length - 1]? = some y ∧ Q y (up M p (.lst xs.dropLast))
  | .pop1, o, [i], M, Q => ∃ p xs k y, o = .ref p ∧ M p = some (.lst xs) ∧ i = .int (k : Nat) ∧ k < 2 ^ 62 ∧ xs[k]? = some y ∧ Q y (up M p (.lst (xs.eraseIdx k)))
  | .get2, o, [k, d], M, Q => ∃ ks ds key, dcOf M o = some (ks, ds) ∧ keyOf k = some key ∧ Q ((getKD ks ds key).getD d) M
  | .setdefault, o, [k, d], M, Q => ∃ p ks ds key, o = .ref p ∧ M p = some (.dct ks ds) ∧ keyOf k = some key ∧ ks.length < sizeLine ∧ (∀ x, getKD ks ds key = some x → Q x M) ∧ (getKD ks ds key = none → Q d (up M p (.dct (ks ++ [key]) (ds ++ [d]))))
  | .split, o, [x], M, Q => ∃ a b, o = .str a ∧ x = .str b ∧ (b.length == 0) = false ∧ a.length + 2 ≤ sizeLine ∧ Q (.lst ((Txt.split a b).map D.str)) M
  | .join, o, [x], M, Q => ∃ (a : Str) (ys : List Str), o = .str a ∧ sqOf M x = some (ys.map D.str) ∧ (ys.map (·.length)).sum + ys.length * a.length ≤ 16777216 ∧ Q (.str (Txt.join a ys)) M
  | .upper, o, [], M, Q => ∃ z, o = .str z ∧ z.length ≤ 5592405 ∧ Q (.str (Txt.upper z)) M
  | _, _, _, _, _ => False
/-- the receiver of a built-in type's method -/
def rcvD : BM → D → MM → Prop
  | .append, x, M => ∃ xs, lsOf M x = some xs
  | .extend, x, M => ∃ xs, lsOf M x = some xs
  | .pop0, x, M => ∃ xs, lsOf M x = some xs
  | .pop1, x, M => ∃ xs, lsOf M x = some xs
  | .upper, x, _ => ∃ z, x = .str z
  | .split, x, _ => ∃ z, x = .str z
  | .join, x, _ => ∃ z, x = .str z
  | .get2, x, M => ∃ ks ds, dcOf M x = some (ks, ds)
  | .setdefault, x, M => ∃ ks ds, dcOf M x = some (ks, ds)
  | _, _, _ => False
/-! dicts whose keys are tuples -/
mutual
def nkOf : D → Option NestedKey
  | .non => some .none
  | .int i => some (.num i)
  | .str x => some (.text x)
  | .tup ds => match nkOfs ds with
    | some ks => some (.tup ks)
    | none => none
  | _ => none
def nkOfs : List D → Option (List NestedKey)
  | [] => some []
  | d :: ds => match nkOf d, nkOfs ds with
    | some k, some ks => some (k :: ks)
    | _, _ => none
end
/-- a tuple as a key -/
def tkOf (d : D) (k : NestedKey) : Prop := (∃ ds, d = .tup ds) ∧ nkOf d = some k ∧ k.depth ≤ 8
def valN (kds : List (NestedKey × D)) (k : NestedKey) : Option D := (kds.find? fun p => decide (p.1 = k)).map (·.2)
def putN (kds : List (NestedKey × D)) (k : NestedKey) (d : D) : List (NestedKey × D) := if (valN kds k).isSome then kds.map (fun p => if p.1 = k then (p.1, d) else p) else kds ++ [(k, d)]
def rdNm (w : World) : NM → D → List D → MM → DV → Prop
  | .get2, o, [k, d], M, Q => ∃ p kds nk, o = .ref p ∧ M p = some (.dn w kds) ∧ tkOf k nk ∧ Q ((valN kds nk).getD d) M
  | .setd2, o, [k, d], M, Q => ∃ p kds nk, o = .ref p ∧ M p = some (.dn w kds) ∧ tkOf k nk ∧ kds.length < sizeLine ∧ (∀ x, valN kds nk = some x → Q x M) ∧ (valN kds nk = none → Q d (up M p (.dn w (kds ++ [(nk, d)]))))
  | _, _, _, _, _ => False
def rdNin (w : World) (x y : D) (M : MM) (Q : Bool → MM → Prop) : Prop := ∃ p kds nk, y = .ref p ∧ M p = some (.dn w kds) ∧ tkOf x nk ∧ Q (valN kds nk).isSome M
def rdNix (w : World) (x y : D) (M : MM) (Q : DV) : Prop := ∃ p kds nk d, x = .ref p ∧ M p = some (.dn w kds) ∧ tkOf y nk ∧ valN kds nk = some d ∧ Q d M
def rdNlen (w : World) (x : D) (M : MM) (Q : DV) : Prop := ∃ p kds, x = .ref p ∧ M p = some (.dn w kds) ∧ Q (.int kds.length) M
def rdNlist (w : World) (fz : Bool) (x : D) (M : MM) (Q : DV) : Prop := ∃ p kds, x = .ref p ∧ M p = some (.dn w kds) ∧ newL fz (kds.map fun e => kN e.1) M Q
def ndD (stab : MM → Prop) (w : World) (g : DG) (tk te : DE) (own : List Nat) (σ : DSt) (Q : List (NestedKey × D) → MM → Prop) : List D → List (NestedKey × D) → MM → Prop
  | [], kds, M => stab M ∧ Q kds M
  | x :: xs, kds, M => stab M ∧ kds.length < sizeLine ∧ g x (wipeD σ own) M fun σ2 M2 => tk σ2 M2 fun kd M3 => ∃ k, tkOf kd k ∧ te σ2 M3 fun y M4 => ndD stab w g tk te own σ Q xs (putN kds k y) M4
/-- positional arguments, then keywords by name -/
def kwArr {α : Type} (ps : List Str) (us : List α) (ks : List Str) (ws : List α) : List α := us ++ (ps.drop us.length).filterMap fun p => (ks.zip ws).lookup p
/-! ### wishes -/
def subD (x y d : D) (σ : DSt) (M : MM) (Q : DSt → MM → Prop) : Prop := match x, y with
  | .ref p, .int k => (∃ xs j, M p = some (.lst xs) ∧ ixN xs.length k = some j ∧ Q σ (up M p (.lst (xs.set j d))))
  | .ref p, .str k => ∃ ks ds, M p = some (.dct ks ds) ∧ ks.length < sizeLine ∧ Q σ (up M p (.dct (putKD ks ds (.inr k) d).1 (putKD ks ds (.inr k) d).2))
  | _, _ => False
def nsubD (w : World) (x y d : D) (σ : DSt) (M : MM) (Q : DSt → MM → Prop) : Prop := ∃ p kds nk, x = .ref p ∧ M p = some (.dn w kds) ∧ tkOf y nk ∧ kds.length < sizeLine ∧ Q σ (up M p (.dn w (putN kds nk d)))
def CGs.len : CGs → Nat
  | .nil => 0
  | .cons _ gs => gs.len + 1
/-- a bool that is asked -/
def Bif (k : Bool) (A B : Prop) : Prop := (k = true → A) ∧ (k = false → B)
theorem Bif_t {A B : Prop} : Bif true A B = A := propext (Iff.intro (fun h => h.1 rfl) (fun h => And.intro (fun _ => h) (fun z => nomatch z)))
theorem Bif_f {A B : Prop} : Bif false A B = B := propext (Iff.intro (fun h => h.2 rfl) (fun h => And.intro (fun z => nomatch z) (fun _ => h)))
theorem Bif_of {k : Bool} {A B : Prop} (h1 : k = true → A) (h2 : k = false → B) : Bif k A B := And.intro h1 h2
def forD (stab : MM → Prop) (g : DG) (b : DS) (E : DEnds) : List D → DSt → MM → Prop
  | [], σ, M => stab M ∧ E.nx σ M
  | x :: xs, σ, M => stab M ∧ g x σ M fun σ1 M1 => b { E with nx := forD stab g b E xs, ct := forD stab g b E xs, bk := E.nx } σ1 M1
def lcD (stab : MM → Prop) (g : DG) (tt : DT) (te : DE) (own : List Nat) (σ : DSt) (Q : List D → MM → Prop) : List D → List D → MM → Prop
  | [], acc, M => stab M ∧ Q acc M
  | x :: xs, acc, M => stab M ∧ acc.length < sizeLine ∧ g x (wipeD σ own) M fun σ2 M2 => tt σ2 M2 fun b M3 => Bif b (te σ2 M3 fun y M4 => lcD stab g tt te own σ Q xs (acc ++ [y]) M4) (lcD stab g tt te own σ Q xs acc M3)
/-- two generators, the second over a list that is written no more -/
def lcD2 (stab : MM → Prop) (g : DG) (tt : DT) (w1 : DSt → MM → (List D → MM → Prop) → Prop) (g1 : DG) (tt1 : DT) (te : DE) (own own1 : List Nat) (σ : DSt) (Q : List D → MM → Prop) : List D → List D → MM → Prop
  | [], acc, M => stab M ∧ Q acc M
  | x :: xs, acc, M => stab M ∧ g x (wipeD σ own) M fun σ2 M2 => tt σ2 M2 fun b M3 => Bif b (w1 σ2 M3 fun ys M4 => lcD (fun _ => True) g1 tt1 te own1 σ2 (fun acc M5 => lcD2 stab g tt w1 g1 tt1 te own own1 σ Q xs acc M5) ys acc M4) (lcD2 stab g tt w1 g1 tt1 te own own1 σ Q xs acc M3)
def fzI (te : DE) : DSt → MM → (List D → MM → Prop) → Prop := fun σ M R => te σ M fun d M1 => ∃ ys, d = .lst ys ∧ R ys M1
def dcD (stab : MM → Prop) (g : DG) (tk te : DE) (own : List Nat) (σ : DSt) (Q : List Key → List D → MM → Prop) : List D → List Key → List D → MM → Prop
  | [], ks, ds, M => stab M ∧ Q ks ds M
  | x :: xs, ks, ds, M => stab M ∧ ks.length < sizeLine ∧ g x (wipeD σ own) M fun σ2 M2 => tk σ2 M2 fun kd M3 => ∃ k, keyOf kd = some k ∧ te σ2 M3 fun y M4 =>
    dcD stab g tk te own σ Q xs (putKD ks ds k y).1 (putKD ks ds k y).2 M4
/-- while: n turns at most -/
def whD (t : DT) (b : DS) (E : DEnds) : Nat → DSt → MM → Prop
  | 0, _, _ => False
  | n + 1, σ, M => t σ M fun c M1 => Bif c (b { E with nx := whD t b E n, ct := whD t b E n, bk := E.nx } σ M1) (E.nx σ M1)
def pairD (xs : List D) : Nat → List D
  | k => match xs with
    | [] => []
    | x :: r => .wtp [.int k, x] :: pairD r (k + 1)
def zipD : List D → List D → List D
  | x :: xs, y :: ys => .wtp [x, y] :: zipD xs ys
  | _, _ => []
def rngD (lo : Int) : Nat → List D
  | 0 => []
  | n + 1 => .int lo :: rngD (lo + 1) n
def strD (z : Str) : List D := z.cps.toList.map fun c => .str ⟨#[c]⟩
/-- what is walked: the items, and what must stay so -/
def itD (x : D) (M : MM) (R : List D → (MM → Prop) → Prop) : Prop := match x with
  | .tup xs => R xs fun _ => True
  | .lst xs => R xs fun _ => True
  | .str z => R (strD z) fun _ => True
  | .ref a => ∃ xs, M a = some (.lst xs) ∧ R xs fun M' => M' a = some (.lst xs)
  | _ => False
def seqD (x : D) (M : MM) (R : List D → (MM → Prop) → Prop) : Prop := match x with
  | .lst xs => R xs fun _ => True
  | .ref a => ∃ xs, M a = some (.lst xs) ∧ R xs fun M' => M' a = some (.lst xs)
  | _ => False
def sqD (x : D) (M : MM) (R : List D → (MM → Prop) → Prop) : Prop := match x with
  | .tup xs => R xs fun _ => True
  | x => seqD x M R
def zpD (x y : D) (M : MM) (R : List D → List D → (MM → Prop) → Prop) : Prop := match x, y with
  | .tup xs, .tup ys => R xs ys fun _ => True
  | .tup xs, y => seqD y M fun ys s2 => R xs ys s2
  | x, y => seqD x M fun xs s1 => seqD y M fun ys s2 => R xs ys fun M' => s1 M' ∧ s2 M'
def hvD : HV → D
  | .bl b => .bl b
  | .bls bs => .lst (bs.map D.bl)
mutual
/-- what is told of a caught exception of the class C that keeps x by the name f -/
def wpH (hot : List (Str × List (Str × HV))) (C f : Str) (x : D) : HE → DSt → MM → DV → Prop
  | .var i, σ, M, Q => ∃ d, σ[i]? = some (some d) ∧ Q d M
  | .fld f', _, M, Q => f' = f ∧ Q x M
  | .str z, _, M, Q => Q (.str z) M
  | .int i, _, M, Q => Q (.int i) M
  | .repr a, σ, M, Q => wpH hot C f x a σ M fun d M1 => rdRepr d M1 Q
  | .cat a b, σ, M, Q => wpH hot C f x a σ M fun d M1 => wpH hot C f x b σ M1 fun e M2 => rdAdd true d e M2 Q
  | .isi _ tab, _, M, Q => ∃ b, tab.lookup C = some b ∧ Q (.bl b) M
  | .ifi _ tab a b, σ, M, Q => ∃ k, tab.lookup C = some k ∧ Bif k (wpH hot C f x a σ M Q) (wpH hot C f x b σ M Q)
  | .ix a b, σ, M, Q => wpH hot C f x a σ M fun d M1 => wpH hot C f x b σ M1 fun e M2 => rdIx d e M2 Q
  | .lst es, σ, M, Q => wpHs hot C f x es σ M fun ds M1 => ds.length ≤ sizeLine ∧ Q (.lst ds) M1
  | .tup es, σ, M, Q => wpHs hot C f x es σ M fun ds M1 => ds.length ≤ sizeLine ∧ Q (.tup ds) M1
  | .hcall g, _, M, Q => ∃ tab v, hot.lookup g = some tab ∧ tab.lookup C = some v ∧ Q (hvD v) M
  | .and a b, σ, M, Q => wpH hot C f x a σ M fun d M1 => ∃ k, d = .bl k ∧ Bif k (wpH hot C f x b σ M1 fun e M2 => ∃ l, e = .bl l ∧ Q (.bl l) M2) (Q (.bl false) M1)
  | .nev, _, _, _ => False
def wpHs (hot : List (Str × List (Str × HV))) (C f : Str) (x : D) : HEs → DSt → MM → (List D → MM → Prop) → Prop
  | .nil, _, M, Q => Q [] M
  | .cons e es, σ, M, Q => wpH hot C f x e σ M fun d M1 => wpHs hot C f x es σ M1 fun ds M2 => Q (d :: ds) M2
end
/-- what the clauses make of an exception of what was handed in -/
def pickH (C f : Str) (x : D) (M : MM) (Q : DV) : List HCl → Prop
  | [] => False
  | c :: r => Bif (decide (C ∈ c.subs)) (wpH [] C f x c.h [] M Q) (pickH C f x M Q r)
def hdE2 (hd : HD) (Q : DV) : ED := fun C ks vs _ M1 => C ∈ hd.all ∧ ∃ f x, ks = [f] ∧ vs = [x] ∧ pickH C f x M1 Q hd.cl
def hfR (fm : HF) (Q : DV) : DV := match fm with
  | .told w => fun d M' => Q (.lst [.str w, d]) M'
  | .drop none => fun _ M' => Q (.lst []) M'
  | .drop (some z) => fun _ M' => Q (.str z) M'
section
variable (Γ : Gam)
mutual
def wpE (E : ED) : CE → DSt → MM → DV → Prop
  | .var i, σ, M, Q => ∃ d, σ[i]? = some (some d) ∧ Q d M
  | .glb x, σ, M, Q => ∃ d, Γ.glob x = some d ∧ Q d M
  | .int i, _, M, Q => Q (.int i) M
  | .str x, _, M, Q => Q (.str x) M
  | .bl b, _, M, Q => Q (.bl b) M
  | .non, _, M, Q => Q .non M
  | .bin o fz a b, σ, M, Q => wpE E a σ M fun x M1 => wpE E b σ M1 fun y M2 => rdBin o fz x y M2 Q
  | .neg a, σ, M, Q => wpE E a σ M fun x M1 => ∃ i, x = .int i ∧ Q (.int (-i)) M1
  | .tst t, σ, M, Q => wpT E t σ M fun b M1 => Q (.bl b) M1
  | .ifx c a b, σ, M, Q => wpT E c σ M fun k M1 => Bif k (wpE E a σ M1 Q) (wpE E b σ M1 Q)
  | .tup es, σ, M, Q => wpEs E es σ M fun ds M1 => ds.length ≤ sizeLine ∧ Q (.tup ds) M1
  | .lst fz es, σ, M, Q => wpEs E es σ M fun ds M1 => ds.length ≤ sizeLine ∧ newL fz ds M1 Q
  | .dct fz ks vs, σ, M, Q => wpEs E ks σ M fun ds M1 => ds = [] ∧ newD fz [] [] M1 Q
  | .dcs ks vs, σ, M, Q => wpEs E vs σ M fun ds M1 => newD true (ks.map Sum.inr) ds M1 Q
  | .lc fz e g it ifs own, σ, M, Q => wpI E it σ M fun xs stab M1 => lcD stab (wpG EF0 g) (wpTs EF0 ifs) (wpE EF0 e) (own.map (·.2)) σ (fun acc M2 => newL fz acc M2 Q) xs [] M1
  | .dc fz k v g it own, σ, M, Q => wpI E it σ M fun xs stab M1 => dcD stab (wpG EF0 g) (wpE EF0 k) (wpE EF0 v) (own.map (·.2)) σ (fun ks ds M2 => newD fz ks ds M2 Q) xs [] [] M1
  | .call f args, σ, M, Q => wpEs E args σ M fun ds M1 => Γ.call f ds M1 Q fun C ks vs M2 => E C ks vs σ M2
  | .callk f args ks kws, σ, M, Q => wpEs E args σ M fun ds M1 => wpEs E kws σ M1 fun es M2 => (ds.length + es.length = (Γ.par f).length ∧ es.length = ks.length) ∧ Γ.call f (kwArr (Γ.par f) ds ks es) M2 Q fun C ks vs M3 => E C ks vs σ M3
  | .make C args, σ, M, Q => wpEs E args σ M fun ds M1 => (ds.length + 1 = (Γ.par C).length) ∧ ∀ p, M1 p = none → Γ.init C (.ref p :: ds) (up M1 p (.ins C [] [])) (fun d M2 => d = .non ∧ Q (.ref p) M2) fun _ _ _ _ => False
  | .meth m o args, σ, M, Q => wpE E o σ M fun x M1 => ∃ p C ks vs, x = .ref p ∧ M1 p = some (.ins C ks vs) ∧ m ∉ ks ∧ Γ.has C m = true ∧ wpEs E args σ M1 fun ds M2 => Γ.meth C m (x :: ds) M2 Q fun C ks vs M2 => E C ks vs σ M2
  | .fld o f, σ, M, Q => wpE E o σ M fun x M1 => ∃ p C ks vs d, x = .ref p ∧ M1 p = some (.ins C ks vs) ∧ Γ.fld C f = true ∧ getFD ks vs f = some d ∧ Q d M1
  | .ix a b, σ, M, Q => wpE E a σ M fun x M1 => wpE E b σ M1 fun y M2 => rdIx x y M2 Q
  | .slc fz a lo hi, σ, M, Q => wpE E a σ M fun x M1 => wpO E lo σ M1 fun i M2 => wpO E hi σ M2 fun j M3 => rdSl fz x i j M3 Q
  | .rev fz a, σ, M, Q => wpE E a σ M fun x M1 => rdRev fz x M1 Q
  | .fn b fz args, σ, M, Q => wpEs E args σ M fun ds M1 => rdF b fz ds M1 Q
  | .bm m o args, σ, M, Q => wpE E o σ M fun x M1 => rcvD m x M1 ∧ wpEs E args σ M1 fun ds M2 => rdM m x ds M2 Q
  | .lenset e, σ, M, Q => wpE E e σ M fun x M1 => rdLenSet x M1 Q
  | .sortset fz e, σ, M, Q => wpE E e σ M fun x M1 => rdSortSet fz x M1 Q
  | .nnew, _, M, Q => ∀ p, M p = none → Q (.ref p) (up M p (.dn Γ.wd []))
  | .nm m o args, σ, M, Q => wpE E o σ M fun x M1 => (∃ p kds, x = .ref p ∧ M1 p = some (.dn Γ.wd kds)) ∧ wpEs E args σ M1 fun ds M2 => rdNm Γ.wd m x ds M2 Q
  | .nix a b, σ, M, Q => wpE E a σ M fun x M1 => wpE E b σ M1 fun y M2 => rdNix Γ.wd x y M2 Q
  | .nlen e, σ, M, Q => wpE E e σ M fun x M1 => rdNlen Γ.wd x M1 Q
  | .nlist fz e, σ, M, Q => wpE E e σ M fun x M1 => rdNlist Γ.wd fz x M1 Q
  | .ndc k v g it own, σ, M, Q => wpI E it σ M fun xs stab M1 => ndD stab Γ.wd (wpG EF0 g) (wpE EF0 k) (wpE EF0 v) (own.map (·.2)) σ (fun kds M2 => ∀ p, M2 p = none → Q (.ref p) (up M2 p (.dn Γ.wd kds))) xs [] M1
  | .lc2 fz e g it ifs own g1 e1 ifs1 own1, σ, M, Q => wpI E it σ M fun xs stab M1 => lcD2 stab (wpG EF0 g) (wpTs EF0 ifs) (fzI (wpE EF0 e1)) (wpG EF0 g1) (wpTs EF0 ifs1) (wpE EF0 e) (own.map (·.2)) own1 σ (fun acc M2 => newL fz acc M2 Q) xs [] M1
  | .lrange1 fz a, σ, M, Q => wpE E a σ M fun x M1 => ∃ j, x = .int j ∧ 0 ≤ j ∧ j ≤ 16777216 ∧ newL fz (rngD 0 j.toNat) M1 Q
  | .nevE, _, _, _ => False
  | .mkx C f _ e, σ, M, Q => wpE E e σ M fun x M1 => Q (.exc C f x) M1
  | .mkx0 C, _, M, Q => Q (.exn C) M
  | .heard T _ hd c, σ, M, Q => (∃ P, M P = some (.tbl T)) ∧ wpE (fun C ks vs σ1 M' => ∃ M'', Sub M'' M' ∧ hdE2 hd Q C ks vs σ1 M'') c σ M (hfR hd.fm Q)
  | .reprd e, σ, M, Q => wpE E e σ M fun x M1 => rdReprD x M1 Q
  | .xfld e f Cs, σ, M, Q => wpE E e σ M fun y M1 => ∃ C d, y = .exc C f d ∧ C ∈ Cs ∧ Q d M1
  | .frzd e, σ, M, Q => wpE E e σ M fun x M1 => ∃ p ks ds, x = .ref p ∧ M1 p = some (.dct ks ds) ∧ Q (.dct ks ds) (del M1 p)
  | .frz e, σ, M, Q => wpE E e σ M fun x M1 => ∃ p ds, x = .ref p ∧ M1 p = some (.lst ds) ∧ Q (.lst ds) (del M1 p)
def wpO (E : ED) : CO → DSt → MM → (Option Int → MM → Prop) → Prop
  | .no, _, M, Q => Q none M
  | .yes e, σ, M, Q => wpE E e σ M fun x M1 => ∃ i, x = .int i ∧ Q (some i) M1
def wpEs (E : ED) : CEs → DSt → MM → (List D → MM → Prop) → Prop
  | .nil, _, M, Q => Q [] M
  | .cons e es, σ, M, Q => wpE E e σ M fun x M1 => wpEs E es σ M1 fun xs M2 => Q (x :: xs) M2
  | .star e es, σ, M, Q => wpE E e σ M fun x M1 => ∃ ys, sqOf M1 x = some ys ∧ wpEs E es σ M1 fun xs M2 => Q (ys ++ xs) M2
  | .starD e es, σ, M, Q => wpE E e σ M fun x M1 => ∃ ks ds, dcOf M1 x = some (ks, ds) ∧ wpEs E es σ M1 fun xs M2 => Q (ks.map kD ++ xs) M2
def wpT (E : ED) : CT → DSt → MM → (Bool → MM → Prop) → Prop
  | .val e, σ, M, Q => wpE E e σ M fun x M1 => ∃ b, x = .bl b ∧ Q b M1
  | .tru e, σ, M, Q => wpE E e σ M fun x M1 => (∀ z, x = .str z → z.length ≤ sizeLine) ∧ ∃ b, truD M1 x = some b ∧ Q b M1
  | .cmp o a b, σ, M, Q => wpE E a σ M fun x M1 => wpE E b σ M1 fun y M2 => rdCmp o x y M2 Q
  | .chain o o' a b c, σ, M, Q => wpE E a σ M fun x M1 => wpE E b σ M1 fun y M2 => rdCmp o x y M2 fun k M3 => Bif k (wpE E c σ M3 fun z M4 => rdCmp o' y z M4 Q) (Q false M3)
  | .and a b, σ, M, Q => wpT E a σ M fun k M1 => Bif k (wpT E b σ M1 Q) (Q false M1)
  | .or a b, σ, M, Q => wpT E a σ M fun k M1 => Bif k (Q true M1) (wpT E b σ M1 Q)
  | .not a, σ, M, Q => wpT E a σ M fun k M1 => Q (!k) M1
  | .isi e ts, σ, M, Q => wpE E e σ M fun x M1 => rdIsi ts x M1 Q
  | .nin neg a b, σ, M, Q => wpE E a σ M fun x M1 => wpE E b σ M1 fun y M2 => rdNin Γ.wd x y M2 fun c M3 => Q (if neg then !c else c) M3
  | .xis e _ tab, σ, M, Q => wpE E e σ M fun y M1 => ∃ C b, xcls y = some C ∧ tab.lookup C = some b ∧ Q b M1
def wpTs (E : ED) : CTs → DSt → MM → (Bool → MM → Prop) → Prop
  | .nil, _, M, Q => Q true M
  | .cons t ts, σ, M, Q => wpT E t σ M fun b M1 => Bif b (wpTs E ts σ M1 Q) (Q false M1)
def wpI (E : ED) : CI → DSt → MM → (List D → (MM → Prop) → MM → Prop) → Prop
  | .seq e, σ, M, R => wpE E e σ M fun x M1 => itD x M1 fun xs stab => R xs stab M1
  | .range1 a, σ, M, R => wpE E a σ M fun x M1 => ∃ j, x = .int j ∧ -(2 ^ 62) ≤ j ∧ j < 2 ^ 62 ∧ R (rngD 0 j.toNat) (fun _ => True) M1
  | .range2 a b, σ, M, R => wpE E a σ M fun x M1 => wpE E b σ M1 fun y M2 => ∃ i j, x = .int i ∧ y = .int j ∧ (-(2 ^ 62) ≤ i ∧ i < 2 ^ 62 ∧ -(2 ^ 62) ≤ j ∧ j < 2 ^ 62) ∧ R (rngD i (j - i).toNat) (fun _ => True) M2
  | .enum e, σ, M, R => wpE E e σ M fun x M1 => sqD x M1 fun xs stab => R (pairD xs 0) stab M1
  | .zip a b, σ, M, R => wpE E a σ M fun x M1 => wpE E b σ M1 fun y M2 => zpD x y M2 fun xs ys stab => R (zipD xs ys) stab M2
  | .items e, σ, M, R => False
  | .values e, σ, M, R => False
def wpG (E : ED) : CG → D → DSt → MM → (DSt → MM → Prop) → Prop
  | .name i, d, σ, M, Q => Q (σ.set i (some d)) M
  | .tup gs, d, σ, M, Q => match d with
    | .tup ds => ds.length = gs.len ∧ wpGs E gs ds σ M Q
    | .wtp ds => ds.length = gs.len ∧ wpGs E gs ds σ M Q
    | _ => False
  | .lup gs, d, σ, M, Q => ∃ ds, lsOf M d = some ds ∧ ds.length = gs.len ∧ wpGs E gs ds σ M Q
  | .sub o i, d, σ, M, Q => wpE E o σ M fun x M1 => wpE E i σ M1 fun y M2 => subD x y d σ M2 Q
  | .nsub o i, d, σ, M, Q => wpE E o σ M fun x M1 => wpE E i σ M1 fun y M2 => nsubD Γ.wd x y d σ M2 Q
def wpGs (E : ED) : CGs → List D → DSt → MM → (DSt → MM → Prop) → Prop
  | .nil, ds, σ, M, Q => ds = [] ∧ Q σ M
  | .cons g gs, ds, σ, M, Q => ∃ d r, ds = d :: r ∧ wpG E g d σ M fun σ1 M1 => wpGs E gs r σ1 M1 Q
end
end
end RX
namespace RX
open PySem PySem.Spec PyProof.Rows L2
structure CFun where
  ps : List Str
  N : List Str
  body : CSs
  lf : Str := ""
section
variable (Γ : Gam)
mutual
def wpS (E : ED) : CS → DEnds → DSt → MM → Prop
  | .expr e, D, σ, M => wpE Γ E e σ M fun _ M1 => D.nx σ M1
  | .asg g e, D, σ, M => wpE Γ E e σ M fun x M1 => wpG Γ E g x σ M1 D.nx
  | .setLc i fz e g it ifs own, D, σ, M => wpI Γ E it σ M fun xs stab M1 => lcD stab (wpG Γ EF0 g) (wpTs Γ EF0 ifs) (wpE Γ EF0 e) (own.map (·.2)) σ (fun acc M2 => newL fz acc M2 fun d M3 => D.nx (σ.set i (some d)) M3) xs [] M1
  | .setLc2 i fz e g it ifs own g1 e1 ifs1 own1, D, σ, M => wpI Γ E it σ M fun xs stab M1 => lcD2 stab (wpG Γ EF0 g) (wpTs Γ EF0 ifs) (fzI (wpE Γ EF0 e1)) (wpG Γ EF0 g1) (wpTs Γ EF0 ifs1) (wpE Γ EF0 e) (own.map (·.2)) own1 σ (fun acc M2 => newL fz acc M2 fun d M3 => D.nx (σ.set i (some d)) M3) xs [] M1
  | .setf o f e, D, σ, M => wpE Γ E e σ M fun y M1 => wpE Γ E o σ M1 fun x M2 => ∃ p C ks vs, x = .ref p ∧ M2 p = some (.ins C ks vs) ∧ Γ.fld C f = true ∧ ks.length < 1000 ∧ D.nx σ (up M2 p (.ins C (putFD ks vs f y).1 (putFD ks vs f y).2))
  | .par2 i j a b, D, σ, M => wpE Γ E a σ M fun x M1 => wpE Γ E b σ M1 fun y M2 => D.nx ((σ.set i (some x)).set j (some y)) M2
  | .aug i o e, D, σ, M => ∃ x, σ[i]? = some (some x) ∧ wpE Γ E e σ M fun y M1 => rdBin o true x y M1 fun z M2 => D.nx (σ.set i (some z)) M2
  | .ret e, D, σ, M => wpE Γ E e σ M D.rt
  | .retN, D, _, M => D.rt .non M
  | .ite c a b, D, σ, M => wpT Γ E c σ M fun k M1 => Bif k (wpSs E a D σ M1) (wpSs E b D σ M1)
  | .for_ g it b, D, σ, M => wpI Γ E it σ M fun xs stab M1 => forD stab (wpG Γ E g) (wpSs E b) D xs σ M1
  | .while_ c b, D, σ, M => ∃ n, whD (wpT Γ E c) (wpSs E b) D n σ M
  | .pass, D, σ, M => D.nx σ M
  | .brk, D, σ, M => D.bk σ M
  | .cont, D, σ, M => D.ct σ M
  | .never, _, _, _ => False
  | .raise C f _ e, _, σ, M => wpE Γ E e σ M fun x M1 => E C [f] [x] σ M1
  | .try1 all _ subs i hot body h, D, σ, M => wpSs (fun C ks vs σ1 M1 => C ∈ all ∧ ∃ f x, ks = [f] ∧ vs = [x] ∧ Bif (decide (C ∈ subs)) (wpH hot C f x h (σ1.set i none) M1 D.rt) (E C ks vs σ1 M1)) body D σ M
def wpSs (E : ED) : CSs → DEnds → DSt → MM → Prop
  | .nil, D, σ, M => D.nx σ M
  | .cons s ss, D, σ, M => wpS E s { D with nx := wpSs E ss D } σ M
end
end
/-- what is known of the defs -/
abbrev FId := Str × Option Str
def startD (f : CFun) (ds : List D) : DSt := ds.map some ++ List.replicate (f.N.length - ds.length) none
def retD (Q : DV) : DV := fun d M' => ∃ M'', Sub M'' M' ∧ Q d M''
def wpBody (Γ : Gam) (f : CFun) : CallT := fun ds M Q E => ds.length = f.ps.length ∧
  wpSs Γ (fun C ks vs _ M' => ∃ M'', Sub M'' M' ∧ E C ks vs M'') f.body { nx := fun _ M' => retD Q .non M', rt := retD Q } (startD f ds) M
/-- one level: calls go to p, the making of instances to q -/
def stepF (T : FId → Option CFun) (gl : Str → Option D) (fl : Str → Str → Bool) (wd : World) (p q : FId → CallT) : FId → CallT := fun id => match T id with
  | some f => wpBody ⟨fun x => match T (x, none) with | some c => c.ps | none => (match T (x, some "__init__") with | some c => c.ps | none => []), fun C m => (T (C, some m)).isSome, fun x => p (x, none), fun C m => p (C, some m), fun C => q (C, some "__init__"), gl, fl, wd⟩ f
  | none => fun _ _ _ _ => False
def wpFF (T : FId → Option CFun) (gl : Str → Option D) (fl : Str → Str → Bool) (wd : World) : Nat → (FId → CallT) × (FId → CallT)
  | 0 => (fun _ _ _ _ _ => False, fun _ _ _ _ _ => False)
  | n + 1 => (stepF T gl fl wd (wpFF T gl fl wd n).1 (wpFF T gl fl wd n).2, (wpFF T gl fl wd n).1)
def wpF (T : FId → Option CFun) (gl : Str → Option D) (fl : Str → Str → Bool) (wd : World) (n : Nat) : FId → CallT := (wpFF T gl fl wd n).1
end RX
set_option Elab.async false
set_option linter.all false
set_option maxRecDepth 100000
set_option maxHeartbeats 4000000
/-! RX3: the operations by values keep what is asked. -/
namespace RX
open PySem PySem.Spec PyProof.Rows L2

abbrev RD2 := D → D → MM → DV → Prop
def LR (K : PySem.W.Frag) (rd : RD2) : R2 := fun x y H Q => ∃ dx dy M Qd, Rep K H dx x ∧ Rep K H dy y ∧ RepM K M H ∧ rd dx dy M Qd ∧ ∀ d M' v H', Fr M H M' H' → Rep K H' d v → RepM K M' H' → Qd d M' → Q v H'
def OpD (X : Cx) (f : Value → Value → Sem Value) (rd : RD2) : Prop := ∀ (pins : List (Addr × Obj)) (s : Shared) (σ : SV) (H : Hp) (x y : V) (v u : Value) (dx dy : D) (M : MM) (Qd : DV),
  Inv X pins σ H s → RelV x v → RelV y u → Rep X.K H dx x → Rep X.K H dy y → RepM X.K M H → rd dx dy M Qd → wpAny (model X.prog X.w) X.A (f v u) (EPD X pins σ M H Qd) X.xe s
theorem opr_of {X : Cx} {f : Value → Value → Sem Value} {rd : RD2} (h : OpD X f rd) : OpR X f (LR X.K rd) := by
  intro pins s σ H x y v u Q I rx ry ⟨dx, dy, M, Qd, h1, h2, m, r, q⟩
  exact thn (h pins s σ H x y v u dx dy M Qd I rx ry h1 h2 m r) fun u s' e => e.ep q
/-- from a rule of the layer -/
theorem opd_of {X : Cx} {f : Value → Value → Sem Value} {r : R2} {pins : List (Addr × Obj)} {s : Shared} {σ : SV} {H : Hp} {x y : V} {v u : Value} {M : MM} {Qd : DV} (h : OpR X f r) (I : Inv X pins σ H s) (rx : RelV x v) (ry : RelV y u)
    (q : r x y H fun v H' => ∃ d M', Fr M H M' H' ∧ Rep X.K H' d v ∧ RepM X.K M' H' ∧ Qd d M') : wpAny (model X.prog X.w) X.A (f v u) (EPD X pins σ M H Qd) X.xe s :=
  thn (h pins s σ H x y v u _ I rx ry q) fun u s' e => .of e

section
variable {X : Cx} {pins : List (Addr × Obj)} {s : Shared} {σ : SV} {H : Hp} {M : MM} {Qd : DV} {K : PySem.W.Frag}
theorem rep_int {i : Int} {x : V} (h : Rep K H (.int i) x) : x = .int i := by unfold Rep at h; exact h
theorem rep_str {i : Str} {x : V} (h : Rep K H (.str i) x) : x = .str i := by unfold Rep at h; exact h
theorem rep_bl {i : Bool} {x : V} (h : Rep K H (.bl i) x) : x = .bl i := by unfold Rep at h; exact h
theorem rep_non {x : V} (h : Rep K H .non x) : x = .non := by unfold Rep at h; exact h
theorem rep_ref {a : Addr} {x : V} (h : Rep K H (.ref a) x) : x = .ref a := by unfold Rep at h; exact h
theorem rep_tup {ds : List D} {x : V} (h : Rep K H (.tup ds) x) : ∃ a vs, x = .ref a ∧ SqT K H a vs ∧ RepL K H ds vs := by
  unfold Rep at h
  obtain ⟨a, vs, e, h, r⟩ := h
  exact ⟨a, vs, e, h.sqt, r⟩
theorem rep_tupS {ds : List D} {x : V} (h : Rep K H (.tup ds) x) : ∃ a vs, x = .ref a ∧ TpS K H a vs ∧ RepL K H ds vs := by unfold Rep at h; exact h
theorem rep_wtp {ds : List D} {x : V} (h : Rep K H (.wtp ds) x) : ∃ a vs, x = .ref a ∧ SqT K H a vs ∧ RepL K H ds vs := by unfold Rep at h; exact h
theorem rep_lst {ds : List D} {x : V} (h : Rep K H (.lst ds) x) : ∃ a vs, x = .ref a ∧ FzL K H a vs ∧ RepL K H ds vs := by unfold Rep at h; exact h
theorem rep_dct {ks : List Key} {ds : List D} {x : V} (h : Rep K H (.dct ks ds) x) : ∃ a o vs, x = .ref a ∧ H a = some (.frz o (.dK (ks.zip vs))) ∧ ks.length = vs.length ∧ RepL K H ds vs := by unfold Rep at h; exact h
theorem mk_int (i : Int) : Rep K H (.int i) (.int i) := by unfold Rep; rfl
theorem mk_str (i : Str) : Rep K H (.str i) (.str i) := by unfold Rep; rfl
theorem mk_bl (i : Bool) : Rep K H (.bl i) (.bl i) := by unfold Rep; rfl
theorem mk_non : Rep K H .non .non := by unfold Rep; rfl
theorem mk_ref (a : Addr) : Rep K H (.ref a) (.ref a) := by unfold Rep; rfl
theorem mk_wtp {ds : List D} {a : Addr} {vs : List V} (h : SqT K H a vs) (r : RepL K H ds vs) : Rep K H (.wtp ds) (.ref a) := by unfold Rep; exact ⟨a, vs, rfl, h, r⟩
theorem mk_tup {ds : List D} {a : Addr} {vs : List V} (h : TpS K H a vs) (r : RepL K H ds vs) : Rep K H (.tup ds) (.ref a) := by unfold Rep; exact ⟨a, vs, rfl, h, r⟩
theorem mk_lst {ds : List D} {a : Addr} {vs : List V} (h : FzL K H a vs) (r : RepL K H ds vs) : Rep K H (.lst ds) (.ref a) := by unfold Rep; exact ⟨a, vs, rfl, h, r⟩
theorem mk_dct {ks : List Key} {ds : List D} {a : Addr} {o : Obj} {vs : List V} (h : H a = some (.frz o (.dK (ks.zip vs)))) (l : ks.length = vs.length) (r : RepL K H ds vs) : Rep K H (.dct ks ds) (.ref a) := by unfold Rep; exact ⟨a, o, vs, rfl, h, l, r⟩
/-- nothing changed -/
theorem fin_ {d : D} {v : V} {u : Value} (I : Inv X pins σ H s) (rv : RelV v u) (m : RepM X.K M H) (r : Rep X.K H d v) (q : Qd d M) : EPD X pins σ M H Qd u s := ⟨d, M, v, H, I, rv, .refl, r, m, q⟩
/-- a list, by what may be written or is frozen -/
theorem lsOf_rep {d : D} {ds : List D} {x : V} (e : lsOf M d = some ds) (r : Rep K H d x) (m : RepM K M H) : ∃ a vs, x = .ref a ∧ LsR K H a vs ∧ RepL K H ds vs := by
  unfold lsOf at e
  split at e
  · cases e
    obtain ⟨a, vs, e1, h, h2⟩ := rep_lst r
    exact ⟨a, vs, e1, .inr h, h2⟩
  · rename_i a
    split at e
    · rename_i ds' q
      cases e
      obtain ⟨vs, h1, h2⟩ := m _ _ q
      exact ⟨a, vs, rep_ref r, .inl h1, h2⟩
    · cases e
  · cases e
theorem sqOf_rep {d : D} {ds : List D} {x : V} (e : sqOf M d = some ds) (r : Rep K H d x) (m : RepM K M H) : ∃ a vs, x = .ref a ∧ (SqL K H a vs ∨ SqT K H a vs) ∧ RepL K H ds vs := by
  unfold sqOf at e
  split at e
  · cases e
    obtain ⟨a, vs, e1, h, h2⟩ := rep_tup r
    exact ⟨a, vs, e1, .inr h, h2⟩
  · obtain ⟨a, vs, e1, h, h2⟩ := lsOf_rep e r m
    exact ⟨a, vs, e1, .inl h.sql, h2⟩
theorem dcOf_rep {d : D} {ks : List Key} {ds : List D} {x : V} (e : dcOf M d = some (ks, ds)) (r : Rep K H d x) (m : RepM K M H) : ∃ a vs, x = .ref a ∧ Rd H a (.dK (ks.zip vs)) ∧ ks.length = vs.length ∧ RepL K H ds vs := by
  unfold dcOf at e
  split at e
  · cases e
    obtain ⟨a, o, vs, e1, h, l, h2⟩ := rep_dct r
    exact ⟨a, vs, e1, .inr ⟨o, h⟩, l, h2⟩
  · rename_i a
    split at e
    · rename_i ks' ds' q
      cases e
      obtain ⟨vs, h1, l, h2⟩ := m _ _ q
      exact ⟨a, vs, rep_ref r, .inl h1, l, h2⟩
    · cases e
  · cases e
theorem rawL {a : Addr} {vs : List V} (I : Inv X pins σ H s) (h : LsR X.K H a vs) : vs.length ≤ sizeLine ∧ ∃ (its : List Value) (n : Nat), Vals vs its ∧ s.heap.get? a = some { cls := .type "list", data := .seq its.toArray n } := by
  rcases h with h | ⟨o, h⟩ | ⟨its, n, h1, h2, h3⟩
  · obtain ⟨z, its, n, r, e⟩ := (Rd.of h).ok I.hok
    exact ⟨z, its, n, r, e⟩
  · obtain ⟨z, its, n, r, e⟩ := (show Rd H a (.lst vs) from .inr ⟨o, h⟩).ok I.hok
    exact ⟨z, its, n, r, e⟩
  · exact ⟨h2, its, n, h3, I.kIn _ _ h1⟩
/-- a new list has been laid at p -/
theorem fin_newL {fz : Bool} {ds : List D} {vs : List V} {p : Addr} {s' : Shared} (I : Inv X pins σ (upd H p (.lst vs)) s') (hp : H p = none) (m : RepM X.K M H) (r : RepL X.K H ds vs) (q : newL fz ds M Qd) : EPD X pins σ M H Qd (.ref p) s' := by
  have k : KeepF H (upd H p (.lst vs)) := .new hp
  cases fz with
  | false =>
    exact ⟨.ref p, up M p (.lst ds), .ref p, _, I, rfl, .new hp, mk_ref p, m.new hp ⟨vs, upd_same, r.keep k⟩, q p (m.free hp)⟩
  | true =>
    obtain ⟨o, I'⟩ := freeze I upd_same (fun _ _ _ z => nomatch z) trivial
    rw [upd_upd] at I'
    exact ⟨.lst ds, M, .ref p, _, I', rfl, .hid hp, mk_lst (.inl ⟨o, upd_same⟩) (r.keep (.new hp)), m.hid hp, q⟩
/-- a new tuple: its object is known -/
theorem fin_newT {ds : List D} {vs : List V} {its : List Value} {h' : Heap} (I : Inv X pins σ H { s with heap := h' }) (m : RepM X.K M H) (r : RepL X.K H ds vs) (rv : Vals vs its) (hz : vs.length ≤ sizeLine) (q : Qd (.tup ds) M) :
    EPD X pins σ M H Qd (.ref h'.objs.size) { s with heap := h'.push { cls := .type "tuple", data := .seq its.toArray } } := by
  have hp : H h'.objs.size = none := I.hok.fresh (Nat.le_refl _)
  have k : KeepF H (upd H h'.objs.size (.frz { cls := .type "tuple", data := .seq its.toArray } (.tup vs))) := .new hp
  refine ⟨.tup ds, M, .ref h'.objs.size, _, I.laid (t' := s.toks) (o := .frz { cls := .type "tuple", data := .seq its.toArray } (.tup vs)) (fun b ob q => Heap.get?_push_of_some _ q) (Nat.le_refl _) ?_, rfl, .hid hp, mk_tup (.inl ⟨_, upd_same, rfl⟩) (r.keep k), m.hid hp, q⟩
  exact ⟨Heap.get?_push_size _ rfl, hz, its, rv, IsTup.new _ _⟩
/-- at the wish of a rule of the layer -/
theorem wish_same {d : D} {v : V} (m : RepM K M H) (r : Rep K H d v) (q : Qd d M) : ∃ d M', Fr M H M' H ∧ Rep K H d v ∧ RepM K M' H ∧ Qd d M' := ⟨d, M, .refl, r, m, q⟩
theorem wish_wtp {ds : List D} {vs : List V} {p : Addr} (hp : H p = none) (m : RepM K M H) (r : RepL K H ds vs) (q : Qd (.wtp ds) M) : ∃ d M', Fr M H M' (upd H p (.tup vs)) ∧ Rep K (upd H p (.tup vs)) d (.ref p) ∧ RepM K M' (upd H p (.tup vs)) ∧ Qd d M' :=
  ⟨.wtp ds, M, .hid hp, mk_wtp (.inl (.of upd_same)) (r.keep (.new hp)), m.hid hp, q⟩

theorem RepL.rep {ds : List D} {vs : List V} (r : RepL K H ds vs) : ∀ n : Nat, RepL K H (List.replicate n ds).flatten (List.replicate n vs).flatten
  | 0 => .nil
  | n + 1 => by
    rw [List.replicate_succ, List.replicate_succ, List.flatten_cons, List.flatten_cons]
    exact r.append (RepL.rep r n)
theorem add_lists {a b : Addr} {vs ws : List V} {ds es : List D} {fz : Bool} (I : Inv X pins σ H s) (m : RepM X.K M H) (ha : LsR X.K H a vs) (hb : LsR X.K H b ws) (ra : RepL X.K H ds vs) (rb : RepL X.K H es ws) (hz : ds.length + es.length ≤ sizeLine) (q : newL fz (ds ++ es) M Qd) :
    wpAny (model X.prog X.w) X.A (binaryOp .Add (.ref a) (.ref b)) (EPD X pins σ M H Qd) X.xe s := by
  obtain ⟨_, its, n, r, e⟩ := rawL I ha
  obtain ⟨_, its2, n2, r2, e2⟩ := rawL I hb
  have l1 := ra.length.trans r.length
  have l2 := rb.length.trans r2.length
  refine PySem.P.add_list e e2 ?_ (by rw [List.size_toArray, List.size_toArray]; omega)
  have ea : its.toArray ++ its2.toArray = (its ++ its2).toArray := by simp
  rw [ea]
  exact fin_newL (I.lnew (t' := s.toks) (r.append r2) (by rw [List.length_append, ← ra.length, ← rb.length]; exact hz)) I.fresh m (ra.append rb) q
theorem d_add {fz : Bool} : OpD X (binaryOp .Add) (rdBin .Add fz) := by
  intro pins s σ H x y v u dx dy M Qd I rx ry hx hy m h
  have lists : (∃ xs ys, lsOf M dx = some xs ∧ lsOf M dy = some ys ∧ xs.length + ys.length ≤ sizeLine ∧ newL fz (xs ++ ys) M Qd) → wpAny (model X.prog X.w) X.A (binaryOp .Add v u) (EPD X pins σ M H Qd) X.xe s := by
    intro ⟨xs, ys, e1, e2, hz, q⟩
    obtain ⟨a, vs, rfl, ha, ra⟩ := lsOf_rep e1 hx m
    obtain ⟨b, ws, rfl, hb, rb⟩ := lsOf_rep e2 hy m
    cases rx
    cases ry
    exact add_lists I m ha hb ra rb hz q
  change rdAdd fz dx dy M Qd at h
  unfold rdAdd at h
  split at h
  · rename_i i j
    have e1 := rep_int hx
    have e2 := rep_int hy
    exact opd_of op_add I rx ry ⟨i, j, e1, e2, wish_same m (mk_int _) h⟩
  · rename_i i j
    have e1 := rep_str hx
    have e2 := rep_str hy
    exact opd_of op_add_str I rx ry ⟨i, j, e1, e2, h.1, wish_same m (mk_str _) h.2⟩
  · rename_i xs ys
    obtain ⟨a, vs, e1, ha, ra⟩ := rep_tupS hx
    obtain ⟨b, ws, e2, hb, rb⟩ := rep_tupS hy
    subst e1 e2
    cases rx
    cases ry
    obtain ⟨its, r1, p1, _⟩ := I.tuple ha.sqt
    obtain ⟨its2, r2, p2, _⟩ := I.tuple hb.sqt
    by_cases z : xs = []
    · subst z
      cases ra.nil_inv
      cases r1
      exact cat_tup0 p1 p2 (fin_ (v := .ref b) I rfl m (mk_tup hb rb) h.2)
    · have hz : its.length + its2.length ≤ sizeLine := by rw [← r1.length, ← r2.length, ← ra.length, ← rb.length]; exact h.1
      refine HT.cat_tup p1 p2 (fun w => z (List.eq_nil_of_length_eq_zero ?_)) (fun w => ?_) (fun w => ?_) hz
      · rw [ra.length, r1.nil_iff.mp w]; rfl
      · have e : ys = [] := List.eq_nil_of_length_eq_zero (by rw [rb.length, r2.nil_iff.mp w]; rfl)
        have q := h.2
        rw [e, List.append_nil] at q
        exact fin_ (v := .ref a) I rfl m (mk_tup ha ra) q
      · exact fin_newT I m (ra.append rb) (r1.append r2) (by rw [List.length_append, r1.length, r2.length]; exact hz) h.2
  · exact lists h
theorem d_sub {fz : Bool} : OpD X (binaryOp .Sub) (rdBin .Sub fz) := by
  intro pins s σ H x y v u dx dy M Qd I rx ry hx hy m h
  obtain ⟨i, j, rfl, rfl, q⟩ := h
  exact opd_of op_sub I rx ry ⟨i, j, rep_int hx, rep_int hy, wish_same m (mk_int _) q⟩
theorem tuple_mul1 (l : Addr) (items : Array Value) (n : Nat) (dd : Option Addr) (sl : Array (Option Value)) (u : Tok) :
    Meets (Builtin.«tuple.__mul__» ⟨[.ref l, .int 1 u], []⟩) (fun _ R s => s.heap.get? l = some { cls := .type "tuple", dict := dd, data := .seq items n, slots := sl } ∧ R (.ok (.ret (Value.ref l))) s) :=
  .of_wp fun prog w A R s h => by
    obtain ⟨hp, g, d, tk, os⟩ := s
    obtain ⟨hl, h⟩ := h
    have f1 := AutoSeq1.idx_int
    have c0 : (decide ((1 : Int) < -(2 ^ 63)) || decide ((1 : Int) ≥ 2 ^ 63)) = false := by decide
    have c1 : (items.isEmpty || (1 : Int) == 1) = true := by rw [show ((1 : Int) == 1) = true from rfl, Bool.or_true]
    wp_walk using wpAny_loadPart' hl
    repeat (first
      | (refine wpAny_ite_false (decide_eq_false (by rw [c0]; exact Bool.false_ne_true)) ?_; wp_walk using wpAny_loadPart' hl)
      | (refine wpAny_ite_true (decide_eq_true c1) ?_; wp_walk using wpAny_loadPart' hl))
    exact ⟨_, rfl, h⟩
theorem tuple_mul0 (l : Addr) (items : Array Value) (n : Nat) (dd : Option Addr) (sl : Array (Option Value)) (u : Tok) (hne : items.isEmpty = false) :
    Meets (Builtin.«tuple.__mul__» ⟨[.ref l, .int 0 u], []⟩) (fun _ R s => s.heap.get? l = some { cls := .type "tuple", dict := dd, data := .seq items n, slots := sl } ∧
      R (.ok (.ret (Value.ref s.heap.objs.size))) { s with heap := s.heap.push { cls := Value.type "tuple", data := Data.seq (#[] : Array Value) }, toks := s.toks }) :=
  .of_wp fun prog w A R s h => by
    obtain ⟨hp, g, d, tk, os⟩ := s
    obtain ⟨hl, h⟩ := h
    have f1 := AutoSeq1.idx_int
    have c0 : (decide ((0 : Int) < -(2 ^ 63)) || decide ((0 : Int) ≥ 2 ^ 63)) = false := by decide
    have c1 : (items.isEmpty || (0 : Int) == 1) = false := by rw [hne]; rfl
    have c2 : (decide ((0 : Int) ≤ 0) || items.isEmpty) = true := by rw [hne]; rfl
    wp_walk using wpAny_loadPart' hl
    repeat (first
      | (refine wpAny_ite_false (decide_eq_false (by rw [c0]; exact Bool.false_ne_true)) ?_; wp_walk using wpAny_loadPart' hl)
      | (refine wpAny_ite_false (decide_eq_false (by rw [c1]; exact Bool.false_ne_true)) ?_; wp_walk using wpAny_loadPart' hl)
      | (refine wpAny_ite_true (decide_eq_true c2) ?_; wp_walk using wpAny_loadPart' hl))
    exact ⟨_, rfl, h⟩
theorem mul_tup {l : Addr} {ds : List D} {xs : List V} {k : Int} {t : Tok} (I : Inv X pins σ H s) (m : RepM X.K M H) (hx : Rep X.K H (.tup ds) (.ref l)) (hT : SqT X.K H l xs) (ra : RepL X.K H ds xs) (h1 : ds ≠ []) (h2 : 0 ≤ k) (h3 : k ≤ 1000) (h4 : ds.length ≤ 1000) (q : Qd (.tup (List.replicate k.toNat ds).flatten) M) :
    wpAny (model X.prog X.w) X.A (binaryOp .Mult (.ref l) (.int k t)) (EPD X pins σ M H Qd) X.xe s := by
  obtain ⟨its, r, ⟨⟨cls, dd, data, sl⟩, ho, hc, n, hd⟩, hs⟩ := I.tuple hT
  simp only at hc hd
  subst hc hd
  have hle : its.length = xs.length := r.length.symm
  have hz : xs.length ≤ 1000 := by rw [← ra.length]; exact h4
  have hi : its.toArray.isEmpty = false := by
    cases its with
    | nil =>
      have z : ds.length = 0 := by rw [ra.length]; exact hle.symm
      exact absurd (List.eq_nil_of_length_eq_zero z) h1
    | cons a b => rfl
  by_cases k0 : k = 0
  · subst k0
    refine wpAny_binaryOp_repeat_ref (T := "tuple") (U := "int") (by decide) ⟨_, ho, rfl⟩ (fun s' => typeIs_int s' 0 t) noFill_tuple_mul F.fills_int_mul F.slot_int_rmul repeat_tuple F.slot_int_index.lookup
      (call_meets F.slot_int_rmul (typeIs_int s 0 t) F.entry_int_rmul (F.args_int_rmul_2 _ _) (int_rmul_tuple 0 t l its.toArray n dd sl)
        ⟨ho, rfl, ⟨_, ho, rfl⟩, call_meets F.slot_tuple_mul ⟨_, ho, rfl⟩ F.entry_tuple_mul (F.args_tuple_mul_2 _ _) (tuple_mul0 l its.toArray n dd sl t hi) ⟨ho, ?_⟩⟩)
    exact fin_newT (h' := s.heap) (ds := []) (vs := []) (its := []) I m .nil .nil (Nat.zero_le _) q
  by_cases k1 : k = 1
  · subst k1
    refine wpAny_binaryOp_repeat_ref (T := "tuple") (U := "int") (by decide) ⟨_, ho, rfl⟩ (fun s' => typeIs_int s' 1 t) noFill_tuple_mul F.fills_int_mul F.slot_int_rmul repeat_tuple F.slot_int_index.lookup
      (call_meets F.slot_int_rmul (typeIs_int s 1 t) F.entry_int_rmul (F.args_int_rmul_2 _ _) (int_rmul_tuple 1 t l its.toArray n dd sl)
        ⟨ho, rfl, ⟨_, ho, rfl⟩, call_meets F.slot_tuple_mul ⟨_, ho, rfl⟩ F.entry_tuple_mul (F.args_tuple_mul_2 _ _) (tuple_mul1 l its.toArray n dd sl t) ⟨ho, ?_⟩⟩)
    have e : (List.replicate (1 : Int).toNat ds).flatten = ds := by
      show (List.replicate 1 ds).flatten = ds
      simp
    rw [e] at q
    exact fin_ (v := .ref l) I rfl m hx q
  have hi : its.toArray.isEmpty = false := by
    cases its with
    | nil => exact absurd (List.eq_nil_of_length_eq_zero (by rw [ra.length, ← hle]; rfl)) h1
    | cons a b => rfl
  have hsz0 : its.toArray.size = xs.length := by rw [List.size_toArray, hle]
  have a1 : k.toNat * xs.length ≤ 1000 * 1000 := Nat.mul_le_mul (by omega) hz
  have a2 : ((xs.length : Nat) : Int) * k ≤ 1000 * k := Int.mul_le_mul_of_nonneg_right (by omega) (by omega)
  have hm : ((its.toArray.size : Nat) : Int) * k ≤ 1000000 := by rw [hsz0]; omega
  have flen : (List.replicate k.toNat its).flatten.length ≤ sizeLine := by rw [PyProof.Rows.lm_len_rep_flat, hle, sizeLine_eq]; omega
  have c0 : (decide (k < -(2 ^ 63)) || decide (k ≥ 2 ^ 63)) = false := by rw [decide_eq_false (by omega), decide_eq_false (by omega)]; rfl
  have c1 : (its.toArray.isEmpty || k == 1) = false := by rw [hi, Bool.false_or]; exact beq_eq_false_iff_ne.mpr (by omega)
  have c2 : (decide (k ≤ 0) || its.toArray.isEmpty) = false := by rw [hi, Bool.or_false]; exact decide_eq_false (by omega)
  have c4 : Builtin.Tuple.tupleTooMany (((its.toArray.size : Nat) : Int) * k) = false := by unfold Builtin.Tuple.tupleTooMany; rw [sizeLine_eq]; exact decide_eq_false (by omega)
  refine wpAny_binaryOp_repeat_ref (T := "tuple") (U := "int") (by decide) ⟨_, ho, rfl⟩ (fun s' => typeIs_int s' k t) noFill_tuple_mul F.fills_int_mul F.slot_int_rmul repeat_tuple F.slot_int_index.lookup
    (call_meets F.slot_int_rmul (typeIs_int s k t) F.entry_int_rmul (F.args_int_rmul_2 _ _) (int_rmul_tuple k t l its.toArray n dd sl)
      ⟨ho, rfl, ⟨_, ho, rfl⟩, call_meets F.slot_tuple_mul ⟨_, ho, rfl⟩ F.entry_tuple_mul (F.args_tuple_mul_2 _ _) (tuple_mulW l its.toArray n dd sl k t c0 c1 c2 (by omega) c4 (by rw [size_rep, List.size_toArray]; exact flen)) ⟨ho, ?_⟩⟩)
  rw [size_rep]
  exact fin_newT (h' := s.heap) I m (RX.RepL.rep ra k.toNat) (r.rep k.toNat) (by rw [PyProof.Rows.lm_len_rep_flat, sizeLine_eq]; omega) q
theorem rep_len (xs : Array Nat) : ∀ (n : Nat) (acc : Array Nat), ((List.replicate n xs).foldl (· ++ ·) acc).size = acc.size + n * xs.size
  | 0, acc => by simp
  | n + 1, acc => by
    rw [List.replicate_succ, List.foldl_cons, rep_len xs n, Array.size_append, Nat.succ_mul]
    omega
theorem d_mul {fz : Bool} : OpD X (binaryOp .Mult) (rdBin .Mult fz) := by
  intro pins s σ H x y v u dx dy M Qd I rx ry hx hy m h
  change rdMul fz dx dy M Qd at h
  unfold rdMul at h
  split at h
  · rename_i i j
    exact opd_of op_mul I rx ry ⟨i, j, rep_int hx, rep_int hy, h.1, wish_same m (mk_int _) h.2⟩
  · rename_i xs k
    obtain ⟨a, vs, e1, ha, ra⟩ := rep_tup hx
    obtain ⟨h1, h2, h3, h4, h5⟩ := h
    subst e1
    cases rx
    cases (rep_int hy)
    obtain ⟨t, rfl⟩ := ry
    exact mul_tup I m hx ha ra h1 h2 h3 h4 h5
  · rename_i z k
    obtain ⟨⟨h1, h2, h3, h4⟩, q⟩ := h
    cases (rep_str hx)
    obtain ⟨τ, rfl⟩ := rx
    cases (rep_int hy)
    obtain ⟨t, rfl⟩ := ry
    have c1 : ¬ k < 1 := by omega
    have c2 : (k == 1 || z.length == 0) = false := by
      have a1 : (k == 1) = false := beq_eq_false_iff_ne.mpr (by omega)
      have a2 : (z.length == 0) = false := beq_eq_false_iff_ne.mpr (by omega)
      rw [a1, a2]; rfl
    have c3 : z.length * k.toNat ≤ 1000 * 1000 := Nat.mul_le_mul h4 (by omega)
    refine PySem.P.mul_str ?_ (fun _ _ => ?_) (fun _ _ => ?_) ?_
    · rw [decide_eq_false (by omega), decide_eq_false (by omega)]; rfl
    · have : (1000 : Int) ≤ (2 ^ 63 - 1) / k := by
        refine Int.le_ediv_of_mul_le (by omega) ?_
        omega
      omega
    · unfold Builtin.Str.tooLong
      rw [sizeLine_eq]
      exact decide_eq_false (by omega)
    · rw [if_neg c1, if_neg (by rw [c2]; exact Bool.false_ne_true)]
      refine ⟨?_, fin_ (v := .str _) (I.tok _) ⟨_, rfl⟩ m (mk_str _) q⟩
      show ((List.replicate k.toNat z.cps).foldl (· ++ ·) #[]).size ≤ sizeLine
      rw [rep_len, sizeLine_eq]
      have e : z.cps.size * k.toNat ≤ 1000 * 1000 := c3
      rw [Nat.mul_comm] at e
      simp only [Array.size_empty]
      omega
  · rename_i a k
    obtain ⟨xs, e1, h1, h2, h3, q⟩ := h
    obtain ⟨vs, hs, r2⟩ := m _ _ e1
    have h4 : xs.length * k.toNat ≤ 1000 * 1000 := Nat.mul_le_mul h3 (by omega)
    refine thn (op_rep pins s σ H x y v u (fun v' H' => ∃ p, v' = .ref p ∧ H p = none ∧ H' = upd H p (.lst (List.replicate k.toNat vs).flatten)) I rx ry ⟨a, k, vs, rep_ref hx, rep_int hy, hs, by omega, by omega, by rw [← r2.length, sizeLine_eq]; omega, fun p hp => ⟨p, rfl, hp, rfl⟩⟩) fun u' s' ⟨v', H', I', rv, p, e2, hp, eH⟩ => ?_
    subst e2 eH
    cases rv
    exact fin_newL I' hp m (RX.RepL.rep r2 k.toNat) q
  · exact h.elim
theorem d_fdiv {fz : Bool} : OpD X (binaryOp .FloorDiv) (rdBin .FloorDiv fz) := by
  intro pins s σ H x y v u dx dy M Qd I rx ry hx hy m h
  obtain ⟨i, j, rfl, rfl, c, q⟩ := h
  exact opd_of op_fdiv I rx ry ⟨i, j, rep_int hx, rep_int hy, c, wish_same m (mk_int _) q⟩
theorem d_mod {fz : Bool} : OpD X (binaryOp .Mod) (rdBin .Mod fz) := by
  intro pins s σ H x y v u dx dy M Qd I rx ry hx hy m h
  obtain ⟨i, j, rfl, rfl, c, q⟩ := h
  exact opd_of op_mod I rx ry ⟨i, j, rep_int hx, rep_int hy, c, wish_same m (mk_int _) q⟩
theorem d_pow {fz : Bool} : OpD X (binaryOp .Pow) (rdBin .Pow fz) := by
  intro pins s σ H x y v u dx dy M Qd I rx ry hx hy m h
  obtain ⟨i, j, rfl, rfl, c, q⟩ := h
  exact opd_of op_pow I rx ry ⟨i, j, rep_int hx, rep_int hy, c, wish_same m (mk_int _) q⟩
theorem d_bin (o : Operator) (fz : Bool) : OpD X (binaryOp o) (rdBin o fz) := by
  cases o with
  | Add => exact d_add
  | Sub => exact d_sub
  | Mult => exact d_mul
  | FloorDiv => exact d_fdiv
  | Mod => exact d_mod
  | Pow => exact d_pow
  | _ => intro pins s σ H x y v u dx dy M Qd I rx ry hx hy m h; exact h.elim

/-! ### comparisons -/
mutual
theorem Vw.dp {M : MM} (m : RepM K M H) : ∀ {d : D} {p : PyData} {v : V}, Vw M d p → Rep K H d v → Dp K H v p
  | _, _, _, .non, r => by rw [rep_non r]; exact .non
  | _, _, _, .bl b, r => by rw [rep_bl r]; exact .bl b
  | _, _, _, .int i, r => by rw [rep_int r]; exact .int i
  | _, _, _, .str x, r => by rw [rep_str r]; exact .str x
  | _, _, _, .tup h, r => by
    obtain ⟨a, vs, e, hs, rl⟩ := rep_tup r
    rw [e]; exact .tup hs (VwL.dp m h rl)
  | _, _, _, .lst h, r => by
    obtain ⟨a, vs, e, hs, rl⟩ := rep_lst r
    rw [e]; exact .lst hs.sql (VwL.dp m h rl)
  | _, _, _, .ref (a := a) e h, r => by
    obtain ⟨vs, hs, rl⟩ := m _ _ e
    rw [rep_ref r]; exact .lst (.inl (.inl hs)) (VwL.dp m h rl)
theorem VwL.dp {M : MM} (m : RepM K M H) : ∀ {ds : List D} {ps : List PyData} {vs : List V}, VwL M ds ps → RepL K H ds vs → DpAll K H vs ps
  | _, _, _, .nil, r => by rw [r.nil_inv]; exact .nil
  | _, _, _, .cons h1 h2, r => by
    obtain ⟨v, vs, e, r1, r2⟩ := r.cons_inv
    rw [e]; exact .cons (Vw.dp m h1 r1) (VwL.dp m h2 r2)
end
theorem eqS {i j : Str} : decide (V.str i = V.str j) = decide (i = j) := decide_eq_decide.mpr ⟨fun h => V.str.inj h, fun h => by rw [h]⟩
theorem eqI {i j : Int} : decide (V.int i = V.int j) = decide (i = j) := decide_eq_decide.mpr ⟨fun h => V.int.inj h, fun h => by rw [h]⟩
theorem len_ls {x y : D} {xs ys : List D} {vx vy : V} {u w : Value} (I : Inv X pins σ H s) (m : RepM X.K M H) (h1 : lsOf M x = some xs) (h2 : lsOf M y = some ys) (hn : xs.length ≠ ys.length) (rx : Rep X.K H x vx) (ry : Rep X.K H y vy) (ex : RelV vx u) (ey : RelV vy w) :
    ∃ (a b : Addr) (p q : Array Value), u = .ref a ∧ w = .ref b ∧ s.heap.IsList a p ∧ s.heap.IsList b q ∧ (p.size != q.size) = true := by
  obtain ⟨a, vs, rfl, ha, ra⟩ := lsOf_rep h1 rx m
  obtain ⟨b, ws, rfl, hb, rb⟩ := lsOf_rep h2 ry m
  obtain ⟨_, ia, na, va, oa⟩ := rawL I ha
  obtain ⟨_, ib, nb, vb, ob⟩ := rawL I hb
  refine ⟨a, b, ia.toArray, ib.toArray, ex, ey, ⟨_, oa, rfl, na, rfl⟩, ⟨_, ob, rfl, nb, rfl⟩, ?_⟩
  rw [bne_iff_ne, List.size_toArray, List.size_toArray, ← va.length, ← vb.length, ← ra.length, ← rb.length]
  exact hn
theorem len_tnil {x : D} {xs : List D} {vx vy : V} {u w : Value} (I : Inv X pins σ H s) (rx : Rep X.K H (.tup (x :: xs)) vx) (ry : Rep X.K H (.tup []) vy) (ex : RelV vx u) (ey : RelV vy w) :
    ∃ (a b : Addr) (p q : Array Value), u = .ref a ∧ w = .ref b ∧ s.heap.IsTuple a p ∧ s.heap.IsTuple b q ∧ q.size = 0 ∧ p.size ≠ 0 := by
  obtain ⟨a, vs, rfl, ha, ra⟩ := rep_tup rx
  obtain ⟨b, ws, rfl, hb, rb⟩ := rep_tup ry
  obtain ⟨ia, va, oa, _⟩ := I.tuple ha
  obtain ⟨ib, vb, ob, _⟩ := I.tuple hb
  refine ⟨a, b, ia.toArray, ib.toArray, ex, ey, oa, ob, ?_, ?_⟩
  · rw [List.size_toArray, ← vb.length, ← rb.length]
    rfl
  · rw [List.size_toArray, ← va.length, ← ra.length]
    exact Nat.succ_ne_zero _
abbrev bD (r : D → D → MM → (Bool → MM → Prop) → Prop) : RD2 := fun x y M Q => r x y M fun b M' => Q (.bl b) M'
theorem d_eq (hu : X.A.units + 64 < cLine) : OpD X (compareOp .Eq) (bD (rdCmp .Eq)) := by
  intro pins s σ H x y v u dx dy M Qd I rx ry hx hy m h
  change rdEq dx dy M (fun b M' => Qd (.bl b) M') at h
  unfold rdEq at h
  split at h
  · rename_i i j
    have e1 := rep_int hx; have e2 := rep_int hy
    refine opd_of op_eq I rx ry ⟨by rw [e1, e2]; rfl, ?_⟩
    rw [e1, e2, eqI]
    exact wish_same m (mk_bl _) h
  · rename_i i j
    have e1 := rep_str hx; have e2 := rep_str hy
    refine opd_of op_eq I rx ry ⟨by rw [e1, e2]; rfl, ?_⟩
    rw [e1, e2, eqS]
    exact wish_same m (mk_bl _) h
  · obtain ⟨b, e, q⟩ := h
    cases e with
    | dat h1 h2 h3 h4 => exact opd_of (op_eqD hu) I rx ry ⟨_, _, h1.dp m hx, h2.dp m hy, h3, h4, wish_same m (mk_bl _) q⟩
    | len h1 h2 hn =>
      obtain ⟨a, b, p, q', rfl, rfl, l1, l2, hne⟩ := len_ls I m h1 h2 hn hx hy rx ry
      exact SeqAt.RcAt.lists_lengths l1 l2 hne (by omega) _ _ _ _ (fin_ (v := .bl false) I rfl m (mk_bl _) q)
    | tnil z zs =>
      obtain ⟨a, b, p, q', rfl, rfl, l1, l2, h0, hp⟩ := len_tnil I hx hy rx ry
      have e0 : ((List.range (min p.size q'.size)).all (fun _ => true) && p.size == q'.size) = false := by
        rw [h0, Nat.min_zero]
        simpa using hp
      have r := SeqAt.RcAt.tuples (A := X.A) (e := fun _ => true) l1 l2 (by omega) fun j _ h2 => absurd h2 (by omega)
      rw [e0] at r
      exact r _ _ _ _ (fin_ (v := .bl false) I rfl m (mk_bl _) q)
theorem d_ne (hu : X.A.units + 64 < cLine) : OpD X (compareOp .NotEq) (bD (rdCmp .NotEq)) := by
  intro pins s σ H x y v u dx dy M Qd I rx ry hx hy m h
  change rdEq dx dy M (fun b M' => Qd (.bl (!b)) M') at h
  unfold rdEq at h
  split at h
  · rename_i i j
    have e1 := rep_int hx; have e2 := rep_int hy
    refine opd_of op_ne I rx ry ⟨by rw [e1, e2]; rfl, ?_⟩
    rw [e1, e2, eqI]
    exact wish_same m (mk_bl _) h
  · rename_i i j
    have e1 := rep_str hx; have e2 := rep_str hy
    refine opd_of op_ne I rx ry ⟨by rw [e1, e2]; rfl, ?_⟩
    rw [e1, e2, eqS]
    exact wish_same m (mk_bl _) h
  · obtain ⟨b, e, q⟩ := h
    cases e with
    | dat h1 h2 h3 h4 => exact opd_of (op_neD hu) I rx ry ⟨_, _, h1.dp m hx, h2.dp m hy, h3, h4, wish_same m (mk_bl _) q⟩
    | len h1 h2 hn =>
      obtain ⟨a, b, p, q', rfl, rfl, l1, l2, hne⟩ := len_ls I m h1 h2 hn hx hy rx ry
      exact SeqAt.RcNeAt.lists_lengths l1 l2 hne (by omega) _ _ _ _ (fin_ (v := .bl true) I rfl m (mk_bl _) q)
    | tnil z zs =>
      obtain ⟨a, b, p, q', rfl, rfl, l1, l2, h0, hp⟩ := len_tnil I hx hy rx ry
      have e0 : ((List.range (min p.size q'.size)).all (fun _ => true) && p.size == q'.size) = false := by
        rw [h0, Nat.min_zero]
        simpa using hp
      have r := SeqAt.RcNeAt.tuples (A := X.A) (e := fun _ => true) l1 l2 (by omega) fun j _ h2 => absurd h2 (by omega)
      rw [e0] at r
      exact r _ _ _ _ (fin_ (v := .bl true) I rfl m (mk_bl _) q)
theorem getK_val : ∀ {ks : List Key} {ds : List D} {vs : List V} {k : Key}, ks.length = vs.length → RepL K H ds vs → (match getKD ks ds k with
    | some d => ∃ v, valV (ks.zip vs) k = some v ∧ Rep K H d v
    | none => valV (ks.zip vs) k = none)
  | [], ds, vs, k, _, _ => by simp [getKD, valV]
  | k' :: ks, ds, [], k, hl, _ => by simp at hl
  | k' :: ks, [], v :: vs, k, hl, r => by have := r.nil_inv; cases this
  | k' :: ks, d :: ds, v :: vs, k, hl, r => by
    obtain ⟨v', vs', e, r1, r2⟩ := r.cons_inv
    cases e
    have ih := getK_val (ks := ks) (k := k) (by simpa using hl) r2
    by_cases hk : k' = k
    · simp only [getKD, valV, List.zip_cons_cons, List.find?_cons, hk, decide_true, Option.map_some]
      exact ⟨v, rfl, r1⟩
    · simp only [getKD, valV, List.zip_cons_cons, List.find?_cons, hk, decide_false]
      exact ih
theorem hasK_val {ks : List Key} {vs : List V} {k : Key} (hl : ks.length = vs.length) : (valV (ks.zip vs) k).isSome = hasK ks k := by
  induction ks generalizing vs with
  | nil => simp [valV, hasK]
  | cons k' ks ih =>
    cases vs with
    | nil => simp at hl
    | cons v vs =>
      have := ih (vs := vs) (by simpa using hl)
      by_cases hk : k' = k
      · simp [valV, hasK, List.find?_cons, hk]
      · simpa [valV, hasK, List.find?_cons, hk] using this
theorem keyOf_rep {d : D} {k : Key} {x : V} (e : keyOf d = some k) (r : Rep K H d x) : x = kV k := by
  unfold keyOf at e
  split at e
  · cases e; exact rep_int r
  · cases e; exact rep_str r
  · cases e
theorem kD_rep (k : Key) : Rep K H (kD k) (kV k) := by
  cases k with
  | inl i => exact mk_int i
  | inr x => exact mk_str x
section odd
open PySem.SeqAt
theorem str_eq_declines_dict (b : Str) (u : Tok) (l : Addr) (c : Value) (es : Array DictEntry) (n : Nat) (dd : Option Addr) (sl : Array (Option Value)) :
    Meets (Builtin.«str.__eq__» ⟨[.str b u, .ref l], []⟩) (fun _ R s => s.heap.get? l = some { cls := c, dict := dd, data := .dict es n, slots := sl } ∧ R (.ok (.ret .notImplemented)) s) :=
  .of_wp fun prog w A R s h => by obtain ⟨hp, g, d, tk, os⟩ := s; obtain ⟨hl, h⟩ := h; wp_walk using AutoSeq1.wpAny_loadPart' hl, wpAny_load hl; exact ⟨_, rfl, h⟩
theorem dict_eq_declines_str (l : Addr) (es : Array DictEntry) (n : Nat) (dd : Option Addr) (sl : Array (Option Value)) (b : Str) (u : Tok) :
    Meets (Builtin.«dict.__eq__» ⟨[.ref l, .str b u], []⟩) (fun _ R s => s.heap.get? l = some { cls := .type "dict", dict := dd, data := .dict es n, slots := sl } ∧ R (.ok (.ret .notImplemented)) s) :=
  .of_wp fun prog w A R s h => by obtain ⟨hp, g, d, tk, os⟩ := s; obtain ⟨hl, h⟩ := h; have f1 := F.sub_str_dict; wp_walk using AutoSeq1.wpAny_loadPart' hl; exact ⟨_, rfl, h⟩
def DicO (h : Heap) (a : Addr) : Prop := ∃ (es : Array DictEntry) (n : Nat) (dd : Option Addr) (sl : Array (Option Value)), h.get? a = some { cls := .type "dict", dict := dd, data := .dict es n, slots := sl }
theorem rc_str_dict {A : Around} {s : Shared} {l : Addr} (b : Str) (u : Tok) (hl : DicO s.heap l) (hu : A.units < cLine) : RcAt A s (.str b u) (.ref l) false := fun prog w E Q h => by
  obtain ⟨es, n, dd, sl, ho⟩ := hl
  exact rc_eq_decline_or (k := false) (typeIs_str s b u) ⟨_, ho, rfl⟩ (by decide) F.sub_dict_str F.slot_str_eq F.slot_dict_eq_refl
    (fun _ hq => call_meets F.slot_str_eq (typeIs_str s b u) F.entry_str_eq (F.args_str_eq_2 _ _) (str_eq_declines_dict b u l (.type "dict") es n dd sl) ⟨ho, hq⟩)
    (fun _ hq => call_meets F.slot_dict_eq_refl ⟨_, ho, rfl⟩ F.entry_dict_eq (F.args_dict_eq_2 _ _) (dict_eq_declines_str l es n dd sl b u) ⟨ho, hq⟩)
    (fun _ hq => wpAny_of_eq (rfl : isSame (.str b u) (.ref l) = pure false) hq) (.inr hu) h
theorem eq_str_dict {A : Around} {s : Shared} {l : Addr} (b : Str) (u : Tok) (hl : DicO s.heap l) (hu : A.units < cLine) : EqAt A s (.str b u) (.ref l) false := fun prog w E Q h => by
  unfold eqBool
  refine wpAny_holding ?_
  refine wpAny_ite_split (fun hab => absurd (eq_of_beq hab) nofun) (fun _ => ?_)
  exact wpAny_bind (rc_str_dict b u hl hu prog w E _ (wpAny_truthy_bool h))
theorem dicO_ok {P : Program} {w : World} {H : Hp} {h : Heap} {a : Addr} {kvs : List (Key × V)} (k : ObjOk P w H h a (.dK kvs)) : DicO h a := by
  obtain ⟨_, _, vs, _, o, es, ep, e, ⟨h1, h2, h3⟩, h4, _⟩ := k
  obtain ⟨oc, od, odt, osl⟩ := o
  simp only at h1 h4
  subst h1 h4
  exact ⟨es, ep, od, osl, e⟩
theorem dicO_rd {a : Addr} {kvs : List (Key × V)} (I : Inv X pins σ H s) (h : Rd H a (.dK kvs)) : DicO s.heap a := by
  rcases h with h | ⟨o, h⟩
  · exact dicO_ok (I.hok a _ h)
  · exact dicO_ok (I.hok a _ h).2
theorem plainL_is {h : Heap} {a : Addr} {its : Array Value} (p : PlainL h a its) : h.IsList a its := by
  obtain ⟨o, n, e, c, _, d⟩ := p
  exact ⟨o, e, c, n, d⟩
theorem isTup_is {h : Heap} {a : Addr} {its : Array Value} (p : IsTup h a its) : h.IsTuple a its := p
/-- a text is none of the other kinds -/
theorem eq_odd {A : Around} {dx : D} {x : V} {u : Value} {n : String} (hu : A.units < cLine) (I : Inv X pins σ H s) (m : RepM X.K M H) (hx : Rep X.K H dx x) (rx : RelV x u) (ht : tyOf M dx = some (.bt n)) (hn : n ≠ "str") (z : Str) (t : Tok) :
    EqAt A s (.str z t) u false := by
  have L {a : Addr} {vs : List V} (h : SqL X.K H a vs) : EqAt A s (.str z t) (.ref a) false := by
    obtain ⟨its, _, p, _⟩ := I.list h
    exact EqAt.str_list z t (plainL_is p) hu
  have T {a : Addr} {vs : List V} (h : SqT X.K H a vs) : EqAt A s (.str z t) (.ref a) false := by
    obtain ⟨its, _, p, _⟩ := I.tuple h
    exact EqAt.str_tuple z t (isTup_is p) hu
  cases dx with
  | non => cases rep_non hx; cases rx; exact EqAt.str_none z t
  | bl b => cases rep_bl hx; cases rx; exact EqAt.str_bool z t b
  | int i => cases rep_int hx; obtain ⟨t', rfl⟩ := rx; exact EqAt.str_int z t i t'
  | str y => exact absurd (by cases ht; rfl) hn
  | tup ds => obtain ⟨a, vs, rfl, h, _⟩ := rep_tup hx; cases rx; exact T h
  | wtp ds => obtain ⟨a, vs, rfl, h, _⟩ := rep_wtp hx; cases rx; exact T h
  | exc C f x => cases ht
  | exn C => cases ht
  | lst ds => obtain ⟨a, vs, rfl, h, _⟩ := rep_lst hx; cases rx; exact L h.sql
  | dct ks ds => obtain ⟨a, o, vs, rfl, h, _⟩ := rep_dct hx; cases rx; exact eq_str_dict z t (dicO_rd I (.inr ⟨o, h⟩)) hu
  | ref a =>
    cases rep_ref hx
    cases rx
    unfold tyOf at ht
    simp only at ht
    split at ht
    · rename_i ds e
      obtain ⟨vs, h1, _⟩ := m a _ e
      exact L (.inl (.inl h1))
    · rename_i ks ds e
      obtain ⟨vs, h1, _⟩ := m a _ e
      exact eq_str_dict z t (dicO_rd I (.inl h1)) hu
    · cases ht
    · cases ht
    · cases ht
    · cases ht
  | ty k => cases ht
theorem strs_vals {K : PySem.W.Frag} : ∀ {zs : List Str} {vs : List V} {its : List Value}, RepL K H (zs.map D.str) vs → Vals vs its → ∀ y ∈ its, ∃ z t, y = .str z t
  | [], vs, its, r, v, y, hy => by
    have := r.nil_inv
    subst this
    cases v
    cases hy
  | z :: zs, vs, its, r, v, y, hy => by
    obtain ⟨v', vs', e, r1, r2⟩ := RepL.cons_inv r
    subst e
    cases rep_str r1
    cases v with
    | cons h1 h2 =>
      rcases List.mem_cons.mp hy with e | e
      · obtain ⟨t, rfl⟩ := h1
        exact ⟨z, t, e⟩
      · exact strs_vals r2 h2 y e
def eqT (z : Str) (v : Value) : Bool := match v with
  | .str y _ => y == z
  | _ => false
theorem eqT_any {K : PySem.W.Frag} {z : Str} : ∀ {zs : List Str} {vs : List V} {its : List Value}, RepL K H (zs.map D.str) vs → Vals vs its → its.any (eqT z) = decide (z ∈ zs)
  | [], vs, its, r, v => by
    have := r.nil_inv
    subst this
    cases v
    simp
  | y :: zs, vs, its, r, v => by
    obtain ⟨v', vs', e, r1, r2⟩ := RepL.cons_inv r
    subst e
    cases rep_str r1
    cases v with
    | cons h1 h2 =>
      obtain ⟨t, rfl⟩ := h1
      rw [List.any_cons, eqT_any r2 h2]
      show (y == z || decide (z ∈ zs)) = _
      by_cases h : y = z
      · subst h; simp
      · have : z ≠ y := fun k => h k.symm
        simp [h, this]
end odd
/-- in: what the sequence's items tell -/
theorem in_seq {u w : Value} {dx : D} {ys : List D} {vs : List V} {p : Addr} {b neg : Bool} {x : V} (hu : X.A.units + 65 < cLine) (I : Inv X pins σ H s) (m : RepM X.K M H) (hx : Rep X.K H dx x) (rx : RelV x u) (hs : SqL X.K H p vs ∨ SqT X.K H p vs) (rl : RepL X.K H ys vs) (e : InR M dx ys b)
    (q : Qd (.bl (if neg then !b else b)) M) : wpAny (model X.prog X.w) X.A (compareOp (if neg then .NotIn else .In) u (.ref p)) (EPD X pins σ M H Qd) X.xe s := by
  cases e with
  | dat h1 h2 h3 h4 =>
    rename_i ps q'
    have d1 := VwL.dp m h1 rl
    have d2 := Vw.dp m h2 hx
    obtain ⟨bs, r2⟩ := Dp.reads I q' x u d2 rx
    have canA : PyData.canLayAll0 ps = true := h3
    have canD := SeqAt.canLay_of_shaped h4
    have hd := SeqAt.depth_of_shaped h4
    have room : X.A.units + 1 + min (PyData.depthAll ps) q'.depth < cLine := by
      have h2 : min (PyData.depthAll ps) q'.depth ≤ q'.depth := Nat.min_le_right _ _
      omega
    rcases hs with hs | hs
    · obtain ⟨as, r1⟩ := Dp.reads I (.list ps) (.ref p) (.ref p) (.lst hs d1) rfl
      cases neg with
      | false => exact SeqAt.in_list_reads r1 r2 canA canD room (fin_ (v := .bl _) I rfl m (mk_bl _) q)
      | true => exact SeqAt.notIn_list_reads r1 r2 canA canD room (fin_ (v := .bl _) I rfl m (mk_bl _) q)
    · obtain ⟨as, r1⟩ := Dp.reads I (.tuple ps) (.ref p) (.ref p) (.tup hs d1) rfl
      cases neg with
      | false => exact SeqAt.in_tuple_reads r1 r2 canA canD room (fin_ (v := .bl _) I rfl m (mk_bl _) q)
      | true => exact SeqAt.notIn_tuple_reads r1 r2 canA canD room (fin_ (v := .bl _) I rfl m (mk_bl _) q)
  | txt ex ey =>
    subst ex ey
    rename_i z zs
    cases rep_str hx
    obtain ⟨τ, rfl⟩ := rx
    rcases hs with hs | hs
    · obtain ⟨its, rv, p, _⟩ := I.list hs
      have he : ∀ y, y ∈ its.toArray → SeqAt.EqAt X.A.in1 s y (.str z τ) (eqT z y) := fun y hy => by
        obtain ⟨z', t, rfl⟩ := strs_vals rl rv y (by simpa using hy)
        exact SeqAt.EqAt.str_str z' t z τ
      have ea : its.toArray.any (eqT z) = decide (z ∈ zs) := by rw [List.any_toArray]; exact eqT_any rl rv
      cases neg with
      | false => exact SeqAt.in_listAt (eqT z) (plainL_is p) he (by rw [ea]; exact fin_ (v := .bl _) I rfl m (mk_bl _) q)
      | true => exact SeqAt.notIn_listAt (eqT z) (plainL_is p) he (by rw [ea]; exact fin_ (v := .bl _) I rfl m (mk_bl _) q)
    · obtain ⟨its, rv, p, _⟩ := I.tuple hs
      have he : ∀ y, y ∈ its.toArray → SeqAt.EqAt X.A.in1 s y (.str z τ) (eqT z y) := fun y hy => by
        obtain ⟨z', t, rfl⟩ := strs_vals rl rv y (by simpa using hy)
        exact SeqAt.EqAt.str_str z' t z τ
      have ea : its.toArray.any (eqT z) = decide (z ∈ zs) := by rw [List.any_toArray]; exact eqT_any rl rv
      cases neg with
      | false => exact SeqAt.in_tupleAt (eqT z) (isTup_is p) he (by rw [ea]; exact fin_ (v := .bl _) I rfl m (mk_bl _) q)
      | true => exact SeqAt.notIn_tupleAt (eqT z) (isTup_is p) he (by rw [ea]; exact fin_ (v := .bl _) I rfl m (mk_bl _) q)
  | odd ht hn ey =>
    subst ey
    rename_i n zs
    rcases hs with hs | hs
    · obtain ⟨its, rv, p, _⟩ := I.list hs
      have he : ∀ y, y ∈ its.toArray → SeqAt.EqAt X.A.in1 s y u false := fun y hy => by
        obtain ⟨z, t, rfl⟩ := strs_vals rl rv y (by simpa using hy)
        exact eq_odd (show X.A.units + 1 < cLine by omega) I m hx rx ht hn z t
      have ea : its.toArray.any (fun _ => false) = false := by simp
      cases neg with
      | false => exact SeqAt.in_listAt (fun _ => false) (plainL_is p) he (by rw [ea]; exact fin_ (v := .bl _) I rfl m (mk_bl _) q)
      | true => exact SeqAt.notIn_listAt (fun _ => false) (plainL_is p) he (by rw [ea]; exact fin_ (v := .bl _) I rfl m (mk_bl _) q)
    · obtain ⟨its, rv, p, _⟩ := I.tuple hs
      have he : ∀ y, y ∈ its.toArray → SeqAt.EqAt X.A.in1 s y u false := fun y hy => by
        obtain ⟨z, t, rfl⟩ := strs_vals rl rv y (by simpa using hy)
        exact eq_odd (show X.A.units + 1 < cLine by omega) I m hx rx ht hn z t
      have ea : its.toArray.any (fun _ => false) = false := by simp
      cases neg with
      | false => exact SeqAt.in_tupleAt (fun _ => false) (isTup_is p) he (by rw [ea]; exact fin_ (v := .bl _) I rfl m (mk_bl _) q)
      | true => exact SeqAt.notIn_tupleAt (fun _ => false) (isTup_is p) he (by rw [ea]; exact fin_ (v := .bl _) I rfl m (mk_bl _) q)
theorem in_dict {u w : Value} {dx : D} {ks : List Key} {vs : List V} {p : Addr} {k : Key} {neg : Bool} {x : V} (hu : X.A.units + 65 < cLine) (I : Inv X pins σ H s) (m : RepM X.K M H) (hx : Rep X.K H dx x) (rx : RelV x u) (ek : keyOf dx = some k) (hs : Rd H p (.dK (ks.zip vs))) (hl : ks.length = vs.length)
    (q : Qd (.bl (if neg then !hasK ks k else hasK ks k)) M) : wpAny (model X.prog X.w) X.A (compareOp (if neg then .NotIn else .In) u (.ref p)) (EPD X pins σ M H Qd) X.xe s := by
  have g : DGet H p x (valV (ks.zip vs) k) := .inl ⟨_, k, hs, keyOf_rep ek hx, rfl⟩
  cases neg with
  | false =>
    refine d_in (by omega) I g rx fun s' I' => fin_ (v := .bl _) I' rfl m (mk_bl _) ?_
    rw [hasK_val hl]; exact q
  | true =>
    refine d_notIn (by omega) I g rx fun s' I' => fin_ (v := .bl _) I' rfl m (mk_bl _) ?_
    rw [hasK_val hl]; exact q
theorem d_in_ (neg : Bool) (hu : X.A.units + 65 < cLine) : OpD X (compareOp (if neg then .NotIn else .In)) (fun x y M Q => rdIn x y M fun b M' => Q (.bl (if neg then !b else b)) M') := by
  intro pins s σ H x y v u dx dy M Qd I rx ry hx hy m h
  change rdIn dx dy M (fun b M' => Qd (.bl (if neg then !b else b)) M') at h
  unfold rdIn at h
  split at h
  · rename_i j
    obtain ⟨i, rfl, q⟩ := h
    cases neg with
    | false => exact opd_of op_in_str I rx ry ⟨i, j, rep_str hx, rep_str hy, wish_same m (mk_bl _) q⟩
    | true => exact opd_of op_notin_str I rx ry ⟨i, j, rep_str hx, rep_str hy, wish_same m (mk_bl _) q⟩
  · obtain ⟨b, e, q⟩ := h
    obtain ⟨a, vs, rfl, hs, rl⟩ := rep_tup hy
    cases ry
    exact in_seq (w := v) hu I m hx rx (.inr hs) rl e q
  · obtain ⟨b, e, q⟩ := h
    obtain ⟨a, vs, rfl, hs, rl⟩ := rep_lst hy
    cases ry
    exact in_seq (w := v) hu I m hx rx (.inl hs.sql) rl e q
  · obtain ⟨k, e, q⟩ := h
    obtain ⟨a, o, vs, rfl, hs, hl, rl⟩ := rep_dct hy
    cases ry
    exact in_dict (w := v) hu I m hx rx e (.inr ⟨o, hs⟩) hl q
  · rcases h with ⟨ys, b, e1, e, q⟩ | ⟨ks, ds, k, e1, e, q⟩
    · obtain ⟨a, vs, rfl, hs, rl⟩ := lsOf_rep e1 hy m
      cases ry
      exact in_seq (w := v) hu I m hx rx (.inl hs.sql) rl e q
    · obtain ⟨a, vs, rfl, hs, hl, rl⟩ := dcOf_rep e1 hy m
      cases ry
      exact in_dict (w := v) hu I m hx rx e hs hl q
theorem rep_non_iff {d : D} {x : V} (r : Rep K H d x) : x = .non ↔ d = .non := by
  refine ⟨fun e => ?_, fun e => by subst e; exact rep_non r⟩
  subst e
  cases d with
  | non => rfl
  | bl b => have := rep_bl r; cases this
  | int b => have := rep_int r; cases this
  | str b => have := rep_str r; cases this
  | tup ds => obtain ⟨_, _, e, _⟩ := rep_tup r; cases e
  | wtp ds => obtain ⟨_, _, e, _⟩ := rep_wtp r; cases e
  | exc C f x => unfold Rep at r; obtain ⟨_, _, _, e, _⟩ := r; cases e
  | exn C => unfold Rep at r; obtain ⟨_, e, _⟩ := r; cases e
  | lst ds => obtain ⟨_, _, e, _⟩ := rep_lst r; cases e
  | dct ks ds => obtain ⟨_, _, _, e, _⟩ := rep_dct r; cases e
  | ref a => have := rep_ref r; cases this
  | ty n => unfold Rep at r; cases r
theorem op_isB : OpR X (compareOp .Is) (fun x y H Q => ∃ b c, x = .bl b ∧ y = .bl c ∧ Q (.bl (decide (b = c))) H) := by
  intro pins s σ H x y v u Q I rx ry h
  obtain ⟨b, c, rfl, rfl, q⟩ := h
  cases rx
  cases ry
  cases b <;> cases c <;> first
    | exact wpAny_pure (fin_bl I q rfl)
    | exact wpAny_bind (wpAny_pure (wpAny_pure (fin_bl I q rfl)))
theorem d_cmp (o : CmpOp) (hu : X.A.units + 65 < cLine) : OpD X (compareOp o) (bD (rdCmp o)) := by
  cases o with
  | Eq => exact d_eq (by omega)
  | NotEq => exact d_ne (by omega)
  | Lt => intro pins s σ H x y v u dx dy M Qd I rx ry hx hy m ⟨i, j, e1, e2, q⟩; subst e1 e2; exact opd_of op_lt I rx ry ⟨i, j, rep_int hx, rep_int hy, wish_same m (mk_bl _) q⟩
  | LtE => intro pins s σ H x y v u dx dy M Qd I rx ry hx hy m ⟨i, j, e1, e2, q⟩; subst e1 e2; exact opd_of op_le I rx ry ⟨i, j, rep_int hx, rep_int hy, wish_same m (mk_bl _) q⟩
  | Gt => intro pins s σ H x y v u dx dy M Qd I rx ry hx hy m ⟨i, j, e1, e2, q⟩; subst e1 e2; exact opd_of op_gt I rx ry ⟨i, j, rep_int hx, rep_int hy, wish_same m (mk_bl _) q⟩
  | GtE => intro pins s σ H x y v u dx dy M Qd I rx ry hx hy m ⟨i, j, e1, e2, q⟩; subst e1 e2; exact opd_of op_ge I rx ry ⟨i, j, rep_int hx, rep_int hy, wish_same m (mk_bl _) q⟩
  | Is =>
    intro pins s σ H x y v u dx dy M Qd I rx ry hx hy m hq
    by_cases hb : ∃ c, dy = .bl c
    · obtain ⟨c, e1⟩ := hb
      subst e1
      obtain ⟨b, e2, q⟩ := (show ∃ b, dx = .bl b ∧ Qd (.bl (decide (b = c))) M from hq)
      subst e2
      exact opd_of op_isB I rx ry ⟨b, c, rep_bl hx, rep_bl hy, wish_same m (mk_bl _) q⟩
    obtain ⟨e1, b, eb, q⟩ : dy = .non ∧ ∃ b, (dx = .non ↔ b = true) ∧ Qd (.bl b) M := by
      cases dy with
      | bl c => exact absurd ⟨c, rfl⟩ hb
      | _ => exact hq
    subst e1
    refine opd_of op_isN I rx ry ⟨rep_non hy, ?_⟩
    have : decide (x = .non) = b := by
      rw [Bool.eq_iff_iff, decide_eq_true_eq, rep_non_iff hx, eb]
    rw [this]
    exact wish_same m (mk_bl _) q
  | IsNot =>
    intro pins s σ H x y v u dx dy M Qd I rx ry hx hy m ⟨e1, b, eb, q⟩
    subst e1
    refine opd_of op_notN I rx ry ⟨rep_non hy, ?_⟩
    have : decide (x = .non) = b := by
      rw [Bool.eq_iff_iff, decide_eq_true_eq, rep_non_iff hx, eb]
    rw [this]
    exact wish_same m (mk_bl _) q
  | In => exact d_in_ false hu
  | NotIn => exact d_in_ true hu
end
end RX
set_option Elab.async false
set_option linter.all false
set_option maxRecDepth 100000
set_option maxHeartbeats 4000000
/-! RX4: subscripts, slices, built-in functions and methods by values. -/
namespace RX
open PySem PySem.Spec PyProof.Rows L2

/-! ### subscripts -/
def IxD (X : Cx) (rd : RD2) : Prop := ∀ (value slice : Expr) (pins : List (Addr × Obj)) (s : Shared) (σ : SV) (H : Hp) (x y : V) (v u : Value) (dx dy : D) (M : MM) (Qd : DV),
  Inv X pins σ H s → RelV x v → RelV y u → Rep X.K H dx x → Rep X.K H dy y → RepM X.K M H → rd dx dy M Qd → subscripted slice false v u = operate [v, u] (getItem v u) → wpAny (model X.prog X.w) X.A (subscriptTail value slice v u) (EPD X pins σ M H Qd) X.xe s
section
variable {X : Cx} {pins : List (Addr × Obj)} {s : Shared} {σ : SV} {H : Hp} {M : MM} {Qd : DV} {K : PySem.W.Frag}
theorem ixr_of {rd : RD2} (h : IxD X rd) : IxR X (LR X.K rd) := by
  intro value slice pins s σ H x y v u Q I rx ry ⟨dx, dy, M, Qd, h1, h2, m, r, q⟩ hs
  exact thn (h value slice pins s σ H x y v u dx dy M Qd I rx ry h1 h2 m r hs) fun u s' e => e.ep q
theorem ixd_of {r : R2} {value slice : Expr} {x y : V} {v u : Value} (h : IxR X r) (I : Inv X pins σ H s) (rx : RelV x v) (ry : RelV y u) (hs : subscripted slice false v u = operate [v, u] (getItem v u))
    (q : r x y H fun v H' => ∃ d M', Fr M H M' H' ∧ Rep X.K H' d v ∧ RepM X.K M' H' ∧ Qd d M') : wpAny (model X.prog X.w) X.A (subscriptTail value slice v u) (EPD X pins σ M H Qd) X.xe s :=
  thn (h value slice pins s σ H x y v u _ I rx ry q hs) fun u s' e => .of e
theorem atI_rep {ds : List D} {vs : List V} {i : Int} {d : D} (r : RepL K H ds vs) (h : atI ds i = some d) : ∃ v, atI vs i = some v ∧ Rep K H d v := by
  unfold atI at h ⊢
  rw [r.length] at h
  cases e : ixN vs.length i with
  | none => rw [e] at h; cases h
  | some j => rw [e] at h; exact r.get h
theorem ix_dict {value slice : Expr} {p : Addr} {ks : List Key} {ds : List D} {vs : List V} {k : Key} {d dy : D} {y : V} {u : Value} (hu : X.A.units + 65 < cLine) (I : Inv X pins σ H s) (m : RepM X.K M H) (hy : Rep X.K H dy y) (ry : RelV y u) (hs : Rd H p (.dK (ks.zip vs))) (hl : ks.length = vs.length)
    (rl : RepL X.K H ds vs) (ek : keyOf dy = some k) (g : getKD ks ds k = some d) (q : Qd d M) (hsub : subscripted slice false (.ref p) u = operate [.ref p, u] (getItem (.ref p) u)) : wpAny (model X.prog X.w) X.A (subscriptTail value slice (.ref p) u) (EPD X pins σ M H Qd) X.xe s := by
  have z := getK_val (k := k) hl rl
  rw [g] at z
  obtain ⟨v, hv, rv⟩ := z
  have g' : DGet H p y (some v) := .inl ⟨_, k, hs, keyOf_rep ek hy, hv.symm⟩
  exact tail_any (isD_at I (.inl ⟨_, hs⟩)).1 PySem.F.slot_dict_getitem.lookup (d_getItem (by omega) I g' ry fun w' s' I' rw' => fin_ I' rw' m rv q) hsub
theorem d_ix (hu : X.A.units + 65 < cLine) : IxD X rdIx := by
  intro value slice pins s σ H x y v u dx dy M Qd I rx ry hx hy m h hsub
  have lists : ∀ {xs : List D} {i : Int} {d : D}, lsOf M dx = some xs → dy = .int i → atI xs i = some d → Qd d M → wpAny (model X.prog X.w) X.A (subscriptTail value slice v u) (EPD X pins σ M H Qd) X.xe s := by
    intro xs i d e1 e2 e3 q
    subst e2
    obtain ⟨a, vs, rfl, hs, rl⟩ := lsOf_rep e1 hx m
    obtain ⟨z, ez, rz⟩ := atI_rep rl e3
    exact ixd_of ix_list I rx ry hsub ⟨a, vs, i, z, rfl, rep_int hy, hs.sql, ez, wish_same m rz q⟩
  have dicts : ∀ {ks : List Key} {ds : List D} {k : Key} {d : D}, dcOf M dx = some (ks, ds) → keyOf dy = some k → getKD ks ds k = some d → Qd d M → wpAny (model X.prog X.w) X.A (subscriptTail value slice v u) (EPD X pins σ M H Qd) X.xe s := by
    intro ks ds k d e1 e2 e3 q
    obtain ⟨a, vs, rfl, hs, hl, rl⟩ := dcOf_rep e1 hx m
    cases rx
    exact ix_dict hu I m hy ry hs hl rl e2 e3 q hsub
  unfold rdIx at h
  split at h
  · rename_i z i
    obtain ⟨c, hz, e, q⟩ := h
    exact ixd_of ix_str I rx ry hsub ⟨z, i, c, rep_str hx, rep_int hy, hz, e, wish_same m (mk_str _) q⟩
  · rename_i xs i
    obtain ⟨d, e, q⟩ := h
    obtain ⟨a, vs, e1, hs, rl⟩ := rep_tup hx
    obtain ⟨z, ez, rz⟩ := atI_rep rl e
    exact ixd_of ix_tup I rx ry hsub ⟨a, vs, i, z, e1, rep_int hy, hs, ez, wish_same m rz q⟩
  · obtain ⟨d, e, q⟩ := h
    exact lists rfl rfl e q
  · obtain ⟨k, d, ek, e, q⟩ := h
    exact dicts rfl ek e q
  · rcases h with ⟨xs, i, d, e1, e2, e3, q⟩ | ⟨ks, ds, k, d, e1, e2, e3, q⟩
    · exact lists e1 e2 e3 q
    · exact dicts e1 e2 e3 q
/-! ### slices -/
theorem RepL.cut {ds : List D} {vs : List V} (r : RepL K H ds vs) (lo hi : Option Int) : RepL K H (cutD ds lo hi) (cutV vs lo hi) := by
  unfold cutD cutV
  rw [r.length]
  exact (r.drop _).take _
abbrev RDS := D → Option Int → Option Int → MM → DV → Prop
def SlD (X : Cx) (rd : RDS) : Prop :=
  ∀ (pins : List (Addr × Obj)) (s : Shared) (σ : SV) (H : Hp) (x : V) (v vl vu : Value) (lo hi : Option Int) (sl : Addr) (dx : D) (M : MM) (Qd : DV), Inv X pins σ H s → RelV x v → s.heap.IsSliceOf sl vl vu .none → IsPart vl lo → IsPart vu hi → Rep X.K H dx x → RepM X.K M H → rd dx lo hi M Qd →
    ∃ T id, typeLookup (.type T) "__getitem__" = pure (some (.builtin id)) ∧ s.TypeIs v T ∧ wpAny (model X.prog X.w) X.A (getItem v (.ref sl)) (EPD X pins σ M H Qd) X.xe s
def LRs (K : PySem.W.Frag) (rd : RDS) : V → Option Int → Option Int → Hp → VK → Prop := fun x lo hi H Q => ∃ dx M Qd, Rep K H dx x ∧ RepM K M H ∧ rd dx lo hi M Qd ∧ ∀ d M' v H', Fr M H M' H' → Rep K H' d v → RepM K M' H' → Qd d M' → Q v H'
theorem slr_of {rd : RDS} (h : SlD X rd) : SlR X (LRs X.K rd) := by
  intro pins s σ H x v vl vu lo hi sl Q I rx hs pl pu ⟨dx, M, Qd, h1, m, r, q⟩
  obtain ⟨T, id, a, b, c⟩ := h pins s σ H x v vl vu lo hi sl dx M Qd I rx hs pl pu h1 m r
  exact ⟨T, id, a, b, thn c fun u s' e => e.ep q⟩
theorem sld_of {r : V → Option Int → Option Int → Hp → VK → Prop} {x : V} {v vl vu : Value} {lo hi : Option Int} {sl : Addr} (h : SlR X r) (I : Inv X pins σ H s) (rx : RelV x v) (hs : s.heap.IsSliceOf sl vl vu .none) (pl : IsPart vl lo) (pu : IsPart vu hi)
    (q : r x lo hi H fun v H' => ∃ d M', Fr M H M' H' ∧ Rep X.K H' d v ∧ RepM X.K M' H' ∧ Qd d M') : ∃ T id, typeLookup (.type T) "__getitem__" = pure (some (.builtin id)) ∧ s.TypeIs v T ∧ wpAny (model X.prog X.w) X.A (getItem v (.ref sl)) (EPD X pins σ M H Qd) X.xe s := by
  obtain ⟨T, id, a, b, c⟩ := h pins s σ H x v vl vu lo hi sl _ I rx hs pl pu q
  exact ⟨T, id, a, b, thn c fun u s' e => .of e⟩
/-- behind a rule that lays a new list: frozen if wished -/
theorem frz_after {fz : Bool} {ds : List D} {vs : List V} {u : Value} {s' : Shared} (m : RepM X.K M H) (r : RepL X.K H ds vs) (q : newL fz ds M Qd) (h : EP X pins σ (fun v H' => ∃ p, v = .ref p ∧ H p = none ∧ H' = upd H p (.lst vs)) u s') : EPD X pins σ M H Qd u s' := by
  obtain ⟨v, H', I, rv, p, rfl, hp, rfl⟩ := h
  cases rv
  exact fin_newL I hp m r q
theorem d_sl {fz : Bool} : SlD X (rdSl fz) := by
  intro pins s σ H x v vl vu lo hi sl dx M Qd I rx hs pl pu hx m h
  unfold rdSl at h
  split at h
  · rename_i xs
    obtain ⟨a, vs, rfl, ht, rl⟩ := rep_tupS hx
    cases rx
    obtain ⟨its, r, tt, hz⟩ := I.tuple ht.sqt
    have hlen : its.toArray.size = vs.length := by rw [List.size_toArray]; exact r.length.symm
    refine ⟨"tuple", _, PyProof.Rows.slot_tuple_getitem.lookup, tt.typeIs, ?_⟩
    by_cases hw : HT.sIx vs.length 0 lo = 0 ∧ HT.sIx vs.length vs.length hi = vs.length
    · have e : cutD xs lo hi = xs := by
        unfold cutD
        rw [rl.length, hw.1, hw.2, List.drop_zero, Nat.sub_zero, ← rl.length, List.take_length]
      rw [e] at h
      exact getItem_tuple_whole tt hs pl pu (by rw [hlen]; exact hw) (fin_ (v := .ref a) I rfl m (mk_tup ht rl) h)
    · refine HT.getItem_tuple_cut tt hs pl pu (by rw [hlen]; exact hw) ?_ (by rw [hlen]; exact hz)
      rw [hlen]
      exact fin_newT (h' := s.heap) I m (rl.cut lo hi) ((r.drop (HT.sIx vs.length 0 lo)).take (HT.sIx vs.length vs.length hi - HT.sIx vs.length 0 lo)) (Nat.le_trans (cutV_length vs lo hi) hz) h
  · rename_i z
    exact sld_of sl_str I rx hs pl pu ⟨z, rep_str hx, h.1, wish_same m (mk_str _) h.2⟩
  · obtain ⟨xs, e1, q⟩ := h
    obtain ⟨a, vs, rfl, hl, rl⟩ := lsOf_rep e1 hx m
    obtain ⟨T, id, h1, h2, h3⟩ := sl_list pins s σ H (.ref a) v vl vu lo hi sl (fun v H' => ∃ p, v = .ref p ∧ H p = none ∧ H' = upd H p (.lst (cutV vs lo hi))) I rx hs pl pu ⟨a, vs, rfl, hl.sql, fun p hp => ⟨p, rfl, hp, rfl⟩⟩
    exact ⟨T, id, h1, h2, thn h3 fun u s' e => frz_after m (rl.cut lo hi) q e⟩
/-! ### built-in functions -/
abbrev RDF := List D → MM → DV → Prop
def CallD (X : Cx) (f : Value) (rd : RDF) : Prop := ∀ (pins : List (Addr × Obj)) (s : Shared) (σ : SV) (H : Hp) (xs : List V) (us : List Value) (ds : List D) (M : MM) (Qd : DV), Inv X pins σ H s → Vals xs us → RepL X.K H ds xs → RepM X.K M H → rd ds M Qd →
  wpAny (model X.prog X.w) X.A (call f us) (EPD X pins σ M H Qd) X.xe s
def LRf (K : PySem.W.Frag) (rd : RDF) : List V → Hp → VK → Prop := fun xs H Q => ∃ ds M Qd, RepL K H ds xs ∧ RepM K M H ∧ rd ds M Qd ∧ ∀ d M' v H', Fr M H M' H' → Rep K H' d v → RepM K M' H' → Qd d M' → Q v H'
theorem cr_of {f : Value} {rd : RDF} (h : CallD X f rd) : CallR X f (LRf X.K rd) := by
  intro pins s σ H xs us Q I r ⟨ds, M, Qd, h1, m, rr, q⟩
  exact thn (h pins s σ H xs us ds M Qd I r h1 m rr) fun u s' e => e.ep q
theorem cd_of {f : Value} {r : List V → Hp → VK → Prop} {xs : List V} {us : List Value} (h : CallR X f r) (I : Inv X pins σ H s) (rv : Vals xs us) (q : r xs H fun v H' => ∃ d M', Fr M H M' H' ∧ Rep X.K H' d v ∧ RepM X.K M' H' ∧ Qd d M') :
    wpAny (model X.prog X.w) X.A (call f us) (EPD X pins σ M H Qd) X.xe s := thn (h pins s σ H xs us _ I rv q) fun u s' e => .of e
theorem repL1 {d : D} {vs : List V} (r : RepL K H [d] vs) : ∃ v, vs = [v] ∧ Rep K H d v := by
  obtain ⟨v, r', e, h1, h2⟩ := r.cons_inv
  rw [h2.nil_inv] at e
  exact ⟨v, e, h1⟩
theorem repL2 {d e : D} {vs : List V} (r : RepL K H [d, e] vs) : ∃ v w, vs = [v, w] ∧ Rep K H d v ∧ Rep K H e w := by
  obtain ⟨v, r', e1, h1, h2⟩ := r.cons_inv
  obtain ⟨w, e2, h3⟩ := repL1 h2
  subst e2
  exact ⟨v, w, e1, h1, h3⟩
theorem repL_map {α : Type} {f : α → D} {g : α → V} (hf : ∀ a v, Rep K H (f a) v → v = g a) : ∀ {l : List α} {vs : List V}, RepL K H (l.map f) vs → vs = l.map g
  | [], vs, r => r.nil_inv
  | a :: l, vs, r => by
    obtain ⟨v, r', e, h1, h2⟩ := RepL.cons_inv (d := f a) (ds := l.map f) r
    rw [e, hf a v h1, repL_map hf h2]; rfl
theorem d1 {rd : D → MM → DV → Prop} {f : Value} (h : ∀ (pins : List (Addr × Obj)) (s : Shared) (σ : SV) (H : Hp) (x : V) (u : Value) (d : D) (M : MM) (Qd : DV), Inv X pins σ H s → RelV x u → Rep X.K H d x → RepM X.K M H → rd d M Qd →
    wpAny (model X.prog X.w) X.A (call f [u]) (EPD X pins σ M H Qd) X.xe s) : CallD X f (fun ds M Q => match ds with | [d] => rd d M Q | _ => False) := by
  intro pins s σ H xs us ds M Qd I rv rl m q
  match ds, q with
  | [d], q =>
    obtain ⟨v, rfl, r⟩ := repL1 rl
    obtain ⟨u, rfl, ru⟩ := vals1 rv
    exact h pins s σ H v u d M Qd I ru r m q
  | [], q => exact q.elim
  | _ :: _ :: _, q => exact q.elim
theorem d2 {rd : D → D → MM → DV → Prop} {f : Value} (h : ∀ (pins : List (Addr × Obj)) (s : Shared) (σ : SV) (H : Hp) (x y : V) (u w : Value) (d e : D) (M : MM) (Qd : DV), Inv X pins σ H s → RelV x u → RelV y w → Rep X.K H d x → Rep X.K H e y → RepM X.K M H → rd d e M Qd →
    wpAny (model X.prog X.w) X.A (call f [u, w]) (EPD X pins σ M H Qd) X.xe s) : CallD X f (fun ds M Q => match ds with | [d, e] => rd d e M Q | _ => False) := by
  intro pins s σ H xs us ds M Qd I rv rl m q
  match ds, q with
  | [d, e], q =>
    obtain ⟨v, z, rfl, r1, r2⟩ := repL2 rl
    obtain ⟨u, w, rfl, ru, rw'⟩ := vals2 rv
    exact h pins s σ H v z u w d e M Qd I ru rw' r1 r2 m q
  | [], q => exact q.elim
  | [_], q => exact q.elim
  | _ :: _ :: _ :: _, q => exact q.elim
theorem v1 {x : V} {u : Value} (r : RelV x u) : Vals [x] [u] := .cons r .nil
theorem v2 {x y : V} {u w : Value} (r : RelV x u) (t : RelV y w) : Vals [x, y] [u, w] := .cons r (.cons t .nil)
theorem c_len : CallD X (.builtin "len") (fun ds M Q => match ds with | [d] => rdLen d M Q | _ => False) := by
  refine d1 ?_
  intro pins s σ H x u d M Qd I rx r m h
  have lists : ∀ {ys : List D}, lsOf M d = some ys → Qd (.int ys.length) M → wpAny (model X.prog X.w) X.A (call (.builtin "len") [u]) (EPD X pins σ M H Qd) X.xe s := by
    intro ys e q
    obtain ⟨a, vs, rfl, hs, r2⟩ := lsOf_rep e r m
    exact cd_of call_len_seq I (v1 rx) ⟨a, vs, rfl, .inl hs.sql, by rw [← r2.length]; exact wish_same m (mk_int _) q⟩
  have dicts : ∀ {ks : List Key} {ds : List D}, dcOf M d = some (ks, ds) → Qd (.int ks.length) M → wpAny (model X.prog X.w) X.A (call (.builtin "len") [u]) (EPD X pins σ M H Qd) X.xe s := by
    intro ks ds e q
    obtain ⟨a, vs, rfl, hs, hl, r2⟩ := dcOf_rep e r m
    have hz : (ks.zip vs).length = ks.length := by rw [List.length_zip, ← hl, Nat.min_self]
    cases rx
    refine d_len I hs fun t s' I' => ?_
    rw [hz]
    exact fin_ (v := .int ks.length) I' ⟨t, rfl⟩ m (mk_int _) q
  unfold rdLen at h
  split at h
  · rename_i z
    exact cd_of call_len_str I (v1 rx) ⟨z, by rw [rep_str r], h.1, wish_same m (mk_int _) h.2⟩
  · obtain ⟨a, vs, rfl, hs, r2⟩ := rep_tup r
    exact cd_of call_len_seq I (v1 rx) ⟨a, vs, rfl, .inr hs, by rw [← r2.length]; exact wish_same m (mk_int _) h⟩
  · exact lists rfl h
  · exact dicts rfl h
  · rcases h with ⟨ys, e, q⟩ | ⟨ks, ds, e, q⟩
    · exact lists e q
    · exact dicts e q
theorem c_int : CallD X (.type "int") (fun ds M Q => match ds with | [d] => rdInt1 d M Q | _ => False) := by
  refine d1 ?_
  intro pins s σ H x u d M Qd I rx r m h
  unfold rdInt1 at h
  split at h
  · rename_i i
    exact cd_of call_int1 I (v1 rx) (.inl ⟨i, by rw [rep_int r], wish_same m (mk_int _) h⟩)
  · rename_i b
    exact cd_of call_int1 I (v1 rx) (.inr ⟨b, by rw [rep_bl r], wish_same m (mk_int _) h⟩)
  · exact h.elim
theorem c_str : CallD X (.type "str") (fun ds M Q => match ds with | [d] => (∃ i, d = .int i ∧ i.natAbs.log2 < 1920 ∧ Q (.str (toString i)) M) | _ => False) := by
  refine d1 (rd := fun d M Q => ∃ i, d = .int i ∧ i.natAbs.log2 < 1920 ∧ Q (.str (toString i)) M) ?_
  intro pins s σ H x u d M Qd I rx r m ⟨i, e, hi, q⟩
  subst e
  exact cd_of call_str_int I (v1 rx) ⟨i, by rw [rep_int r], hi, wish_same m (mk_str _) q⟩
theorem c_tuple : CallD X (.type "tuple") (fun ds M Q => match ds with | [d] => rdTup1 d M Q | _ => False) := by
  refine d1 ?_
  intro pins s σ H x u d M Qd I rx r m h
  have lists : ∀ {ys : List D}, lsOf M d = some ys → Qd (.tup ys) M → wpAny (model X.prog X.w) X.A (call (.type "tuple") [u]) (EPD X pins σ M H Qd) X.xe s := by
    intro ys e q
    obtain ⟨a, vs, rfl, hs, r2⟩ := lsOf_rep e r m
    cases rx
    obtain ⟨its, rv, pl, hz⟩ := I.list hs.sql
    have hlen := rv.length
    refine call_tuple_list pl.isList (fun h' kp => ?_) (by simp only [List.size_toArray]; omega)
    exact fin_newT (I.kept (t' := s.toks) kp) m r2 rv hz q
  unfold rdTup1 at h
  split at h
  · obtain ⟨a, vs, rfl, hs, r2⟩ := rep_tupS r
    exact cd_of call_tupleT I (v1 rx) ⟨a, vs, rfl, hs.sqt, wish_same m (mk_tup hs r2) h⟩
  · obtain ⟨ys, e, q⟩ := h
    exact lists e q
theorem c_list {fz : Bool} : CallD X (.type "list") (fun ds M Q => match ds with | [d] => (∃ xs, sqOf M d = some xs ∧ newL fz xs M Q) | _ => False) := by
  refine d1 (rd := fun d M Q => ∃ xs, sqOf M d = some xs ∧ newL fz xs M Q) ?_
  intro pins s σ H x u d M Qd I rx r m ⟨ys, e, q⟩
  obtain ⟨a, vs, rfl, hs, r2⟩ := sqOf_rep e r m
  exact thn (call_list_of pins s σ H _ _ (fun v H' => ∃ p, v = .ref p ∧ H p = none ∧ H' = upd H p (.lst vs)) I (v1 rx) ⟨a, vs, rfl, hs, fun l hl => ⟨l, rfl, hl, rfl⟩⟩) fun u s' e => frz_after m r2 q e
theorem c_abs : CallD X (.builtin "abs") (fun ds M Q => match ds with | [d] => (∃ i, d = .int i ∧ Q (.int (if i < 0 then -i else i)) M) | _ => False) := by
  refine d1 (rd := fun d M Q => ∃ i, d = .int i ∧ Q (.int (if i < 0 then -i else i)) M) ?_
  intro pins s σ H x u d M Qd I rx r m ⟨i, e, q⟩
  subst e
  exact cd_of call_abs I (v1 rx) ⟨i, by rw [rep_int r], wish_same m (mk_int _) q⟩
theorem c_all (hc : X.calm = true) : CallD X (.builtin "all") (fun ds M Q => match ds with | [d] => (∃ bs : List Bool, lsOf M d = some (bs.map D.bl) ∧ Q (.bl (bs.all id)) M) | _ => False) := by
  refine d1 (rd := fun d M Q => ∃ bs : List Bool, lsOf M d = some (bs.map D.bl) ∧ Q (.bl (bs.all id)) M) ?_
  intro pins s σ H x u d M Qd I rx r m ⟨bs, e, q⟩
  obtain ⟨a, vs, rfl, hs, r2⟩ := lsOf_rep e r m
  have ev := repL_map (g := V.bl) (fun b v h => rep_bl h) r2
  subst ev
  exact cd_of (cr_all hc) I (v1 rx) ⟨a, bs, rfl, hs.sql, wish_same m (mk_bl _) q⟩
theorem c_any (hc : X.calm = true) : CallD X (.builtin "any") (fun ds M Q => match ds with | [d] => (∃ bs : List Bool, lsOf M d = some (bs.map D.bl) ∧ Q (.bl (bs.any id)) M) | _ => False) := by
  refine d1 (rd := fun d M Q => ∃ bs : List Bool, lsOf M d = some (bs.map D.bl) ∧ Q (.bl (bs.any id)) M) ?_
  intro pins s σ H x u d M Qd I rx r m ⟨bs, e, q⟩
  obtain ⟨a, vs, rfl, hs, r2⟩ := lsOf_rep e r m
  have ev := repL_map (g := V.bl) (fun b v h => rep_bl h) r2
  subst ev
  exact cd_of (cr_any hc) I (v1 rx) ⟨a, bs, rfl, hs.sql, wish_same m (mk_bl _) q⟩
theorem c_sum (hc : X.calm = true) : CallD X (.builtin "sum") (fun ds M Q => match ds with | [d] => (∃ is : List Int, lsOf M d = some (is.map D.int) ∧ Q (.int is.sum) M) | _ => False) := by
  refine d1 (rd := fun d M Q => ∃ is : List Int, lsOf M d = some (is.map D.int) ∧ Q (.int is.sum) M) ?_
  intro pins s σ H x u d M Qd I rx r m ⟨bs, e, q⟩
  obtain ⟨a, vs, rfl, hs, r2⟩ := lsOf_rep e r m
  have ev := repL_map (g := V.int) (fun b v h => rep_int h) r2
  subst ev
  exact cd_of (cr_sum hc) I (v1 rx) ⟨a, bs, rfl, hs.sql, wish_same m (mk_int _) q⟩
theorem c_min (hc : X.calm = true) : CallD X (.builtin "min") (fun ds M Q => match ds with | [d, e] => rdMin2 d e M Q | _ => False) := by
  refine d2 ?_
  intro pins s σ H x y u w d e M Qd I rx ry r1 r2 m ⟨i, j, e1, e2, q⟩
  subst e1 e2
  exact cd_of (call_min2 hc) I (v2 rx ry) ⟨i, j, by rw [rep_int r1, rep_int r2], wish_same m (mk_int _) q⟩
theorem c_max (hc : X.calm = true) : CallD X (.builtin "max") (fun ds M Q => match ds with | [d, e] => rdMax2 d e M Q | _ => False) := by
  refine d2 ?_
  intro pins s σ H x y u w d e M Qd I rx ry r1 r2 m ⟨i, j, e1, e2, q⟩
  subst e1 e2
  exact cd_of (call_max2 hc) I (v2 rx ry) ⟨i, j, by rw [rep_int r1, rep_int r2], wish_same m (mk_int _) q⟩
theorem c_max1 (hc : X.calm = true) : CallD X (.builtin "max") (fun ds M Q => match ds with | [d] => (∃ is : List Int, lsOf M d = some (is.map D.int) ∧ is ≠ [] ∧ ∀ m ∈ is, (∀ i ∈ is, i ≤ m) → Q (.int m) M) | _ => False) := by
  refine d1 (rd := fun d M Q => ∃ is : List Int, lsOf M d = some (is.map D.int) ∧ is ≠ [] ∧ ∀ m ∈ is, (∀ i ∈ is, i ≤ m) → Q (.int m) M) ?_
  intro pins s σ H x u d M Qd I rx r m ⟨bs, e, hne, q⟩
  obtain ⟨a, vs, rfl, hs, r2⟩ := lsOf_rep e r m
  have ev := repL_map (g := V.int) (fun b v h => rep_int h) r2
  subst ev
  exact cd_of (cr_max hc) I (v1 rx) ⟨a, bs, rfl, hs.sql, List.length_pos_iff.mpr hne, fun z hz hle => wish_same m (mk_int _) (q z hz hle)⟩
theorem c_maxA (hc : X.calm = true) : CallD X (.builtin "max") (fun ds M Q => match ds with | [d] => (∃ is : List Int, lsOf M d = some (is.map D.int) ∧ is ≠ [] ∧ ∀ m ∈ is, (∀ i ∈ is, i ≤ m) → Q (.int m) M) | [d, e] => rdMax2 d e M Q | _ => False) := by
  intro pins s σ H xs us ds M Qd I rv rl m q
  match ds, q with
  | [d], q => exact c_max1 hc pins s σ H xs us [d] M Qd I rv rl m q
  | [d, e], q => exact c_max hc pins s σ H xs us [d, e] M Qd I rv rl m q
  | [], q => exact q.elim
  | _ :: _ :: _ :: _, q => exact q.elim
theorem c_min1 (hc : X.calm = true) : CallD X (.builtin "min") (fun ds M Q => match ds with | [d] => (∃ is : List Int, lsOf M d = some (is.map D.int) ∧ is ≠ [] ∧ ∀ m ∈ is, (∀ i ∈ is, m ≤ i) → Q (.int m) M) | _ => False) := by
  refine d1 (rd := fun d M Q => ∃ is : List Int, lsOf M d = some (is.map D.int) ∧ is ≠ [] ∧ ∀ m ∈ is, (∀ i ∈ is, m ≤ i) → Q (.int m) M) ?_
  intro pins s σ H x u d M Qd I rx r m ⟨bs, e, hne, q⟩
  obtain ⟨a, vs, rfl, hs, r2⟩ := lsOf_rep e r m
  have ev := repL_map (g := V.int) (fun b v h => rep_int h) r2
  subst ev
  exact cd_of (cr_min hc) I (v1 rx) ⟨a, bs, rfl, hs.sql, List.length_pos_iff.mpr hne, fun z hz hle => wish_same m (mk_int _) (q z hz hle)⟩
theorem c_minA (hc : X.calm = true) : CallD X (.builtin "min") (fun ds M Q => match ds with | [d] => (∃ is : List Int, lsOf M d = some (is.map D.int) ∧ is ≠ [] ∧ ∀ m ∈ is, (∀ i ∈ is, m ≤ i) → Q (.int m) M) | [d, e] => rdMin2 d e M Q | _ => False) := by
  intro pins s σ H xs us ds M Qd I rv rl m q
  match ds, q with
  | [d], q => exact c_min1 hc pins s σ H xs us [d] M Qd I rv rl m q
  | [d, e], q => exact c_min hc pins s σ H xs us [d, e] M Qd I rv rl m q
  | [], q => exact q.elim
  | _ :: _ :: _ :: _, q => exact q.elim
theorem c_divmod : CallD X (.builtin "divmod") (fun ds M Q => match ds with | [d, e] => rdDivmod d e M Q | _ => False) := by
  refine d2 ?_
  intro pins s σ H x y u w d e M Qd I rx ry r1 r2 m ⟨i, j, e1, e2, hc, q⟩
  subst e1 e2
  exact cd_of call_divmod I (v2 rx ry) ⟨i, j, by rw [rep_int r1, rep_int r2], hc, fun p hp => wish_wtp hp m (.cons (mk_int _) (.cons (mk_int _) .nil)) q⟩
/-! ### methods -/
abbrev RDM := D → List D → MM → DV → Prop
def MtD (X : Cx) (id : String) (rd : RDM) : Prop := ∀ (pins : List (Addr × Obj)) (s : Shared) (σ : SV) (H : Hp) (x : V) (xs : List V) (v : Value) (us : List Value) (dx : D) (ds : List D) (M : MM) (Qd : DV), Inv X pins σ H s → RelV x v → Vals xs us →
  Rep X.K H dx x → RepL X.K H ds xs → RepM X.K M H → rd dx ds M Qd → wpAny (model X.prog X.w) X.A (call (.builtin id) (v :: us)) (EPD X pins σ M H Qd) X.xe s
theorem RepL.dropLast {ds : List D} {vs : List V} (r : RepL K H ds vs) : RepL K H ds.dropLast vs.dropLast := by
  rw [List.dropLast_eq_take, List.dropLast_eq_take, r.length]
  exact r.take _
/-- a list is written -/
theorem fin_set {p : Addr} {d0 : DO} {ds : List D} {vs : List V} {d : D} {v : V} {u : Value} {s' : Shared} (I : Inv X pins σ (upd H p (.lst vs)) s') (rv : RelV v u) (m : RepM X.K M H) (e : M p = some d0) (r : RepL X.K H ds vs) (rd : Rep X.K H d v) (q : Qd d (up M p (.lst ds))) : EPD X pins σ M H Qd u s' := by
  have k : KeepF H (upd H p (.lst vs)) := .mut (m.mut e)
  exact ⟨d, up M p (.lst ds), v, _, I, rv, .put e, rd.keep k, m.put (d := .lst ds) e ⟨vs, upd_same, r.keep k⟩, q⟩
theorem m_append : MtD X "list.append" (rdM .append) := by
  intro pins s σ H x xs v us dx ds M Qd I rx rxs r rl m h
  match ds, h with
  | [y], h =>
    obtain ⟨p, ys, e1, e2, hz, q⟩ := h
    subst e1
    obtain ⟨w, rfl, rw'⟩ := repL1 rl
    obtain ⟨vs, hs, r2⟩ := m _ _ e2
    refine thn (mt_append pins s σ H x [w] v us (fun v H' => v = .non ∧ H' = upd H p (.lst (vs ++ [w]))) I rx rxs ⟨p, vs, w, rep_ref r, rfl, hs, by rw [← r2.length]; exact hz, rfl, rfl⟩) fun u s' ⟨v, H', I', rv, ev, eH⟩ => ?_
    subst ev eH
    exact fin_set I' rv m e2 (r2.append (.cons rw' .nil)) mk_non q
  | [], h => exact h.elim
  | _ :: _ :: _, h => exact h.elim
theorem m_extend : MtD X "list.extend" (rdM .extend) := by
  intro pins s σ H x xs v us dx ds M Qd I rx rxs r rl m h
  match ds, h with
  | [y], h =>
    obtain ⟨p, ys, zs, e1, e2, e3, hz, q⟩ := h
    subst e1
    obtain ⟨w, rfl, rw'⟩ := repL1 rl
    obtain ⟨vs, hs, r2⟩ := m _ _ e2
    obtain ⟨b, ws, rfl, hb, r3⟩ := lsOf_rep e3 rw' m
    cases (rep_ref r)
    cases rx
    obtain ⟨u, rfl, ru⟩ := vals1 rxs
    cases ru
    obtain ⟨z, its, n, rr, hl, e⟩ := I.lstM hs
    obtain ⟨z2, its2, n2, rr2, e'⟩ := rawL I hb
    have l1 := r2.length
    have l2 := r3.length.trans rr2.length
    have hsz : its.toArray.size + its2.toArray.size ≤ sizeLine := by rw [List.size_toArray, List.size_toArray]; omega
    have hlong : ¬ (!its.toArray.isEmpty && Builtin.List.listTooLong (its.toArray.size + its2.toArray.size)) = true := by
      rw [notLongL hsz, Bool.and_false]
      exact Bool.false_ne_true
    refine call_meets F.slot_list_extend ⟨_, e, rfl⟩ F.entry_list_extend (F.args_list_extend_2 _ _)
      (AutoSeq1.list_extend_list_list_0 p its.toArray n b its2.toArray n2 hlong (by rw [List.size_toArray]; omega) (by omega)) ⟨e, e', ?_⟩
    refine fin_set (v := .non) (vs := vs ++ ws) (I.lset (its' := its ++ its2) hs e (by simp) (rr.append rr2) ?_) rfl m e2 (r2.append r3) mk_non q
    rw [List.length_append, ← r2.length, ← r3.length]
    exact hz
  | [], h => exact h.elim
  | _ :: _ :: _, h => exact h.elim
theorem m_pop0 : MtD X "list.pop" (rdM .pop0) := by
  intro pins s σ H x xs v us dx ds M Qd I rx rxs r rl m h
  match ds, h with
  | [], h =>
    obtain ⟨p, ys, y, e1, e2, hy, q⟩ := h
    subst e1
    cases rl.nil_inv
    obtain ⟨vs, hs, r2⟩ := m _ _ e2
    obtain ⟨w, hw, rw'⟩ := r2.get hy
    refine thn (mt_pop pins s σ H x [] v us (fun v H' => v = w ∧ H' = upd H p (.lst vs.dropLast)) I rx rxs ⟨p, vs, w, rep_ref r, rfl, hs, by rw [← r2.length]; exact hw, rfl, rfl⟩) fun u s' ⟨v, H', I', rv, ev, eH⟩ => ?_
    subst ev eH
    exact fin_set I' rv m e2 r2.dropLast rw' q
  | _ :: _, h => exact h.elim
theorem m_pop1 : MtD X "list.pop" (rdM .pop1) := by
  intro pins s σ H x xs v us dx ds M Qd I rx rxs r rl m h
  match ds, h with
  | [i], h =>
    obtain ⟨p, ys, k, y, e1, e2, ei, hk, hy, q⟩ := h
    subst e1 ei
    obtain ⟨z, rfl, rz⟩ := repL1 rl
    obtain ⟨vs, hs, r2⟩ := m _ _ e2
    obtain ⟨w, hw, rw'⟩ := r2.get hy
    have hk2 : k < vs.length := (List.getElem?_eq_some_iff.mp hw).1
    have hi : seqIndex? (k : Int) vs.length = some k := by
      unfold seqIndex?
      simp
      omega
    refine thn (mt_popAt pins s σ H x [z] v us (fun v H' => v = w ∧ H' = upd H p (.lst (vs.eraseIdx k))) I rx rxs ⟨p, vs, k, k, w, rep_ref r, by rw [rep_int rz], hs, by omega, by omega, hi, hw, rfl, rfl⟩) fun u s' ⟨v, H', I', rv, ev, eH⟩ => ?_
    subst ev eH
    exact fin_set I' rv m e2 (r2.eraseIdx k) rw' q
  | [], h => exact h.elim
  | _ :: _ :: _, h => exact h.elim
theorem m_upper : MtD X "str.upper" (rdM .upper) := by
  intro pins s σ H x xs v us dx ds M Qd I rx rxs r rl m h
  match ds, h with
  | [], h =>
    obtain ⟨z, e1, hz, q⟩ := h
    subst e1
    cases rl.nil_inv
    exact thn (mt_upper pins s σ H x [] v us _ I rx rxs ⟨z, rep_str r, rfl, hz, wish_same m (mk_str _) q⟩) fun u s' e => .of e
  | _ :: _, h => exact h.elim
theorem reps_strs (H : Hp) : ∀ ys : List Str, RepL X.K H (ys.map D.str) (ys.map V.str)
  | [] => .nil
  | y :: ys => .cons (mk_str y) (reps_strs H ys)
theorem m_split : MtD X "str.split" (rdM .split) := by
  intro pins s σ H x xs v us dx ds M Qd I rx rxs r rl m h
  match ds, h with
  | [d], h =>
    obtain ⟨a, b, e1, e2, hb, hz, q⟩ := h
    subst e1 e2
    obtain ⟨w, rfl, rw'⟩ := repL1 rl
    refine thn (mt_split pins s σ H x [w] v us (fun v' H' => ∃ p, v' = .ref p ∧ H p = none ∧ H' = upd H p (.lst ((Txt.split a b).map V.str))) I rx rxs ⟨a, b, rep_str r, by rw [rep_str rw'], hb, hz, fun p hp => ⟨p, rfl, hp, rfl⟩⟩) fun u s' ⟨v', H', I', rv, p, e2, hp, eH⟩ => ?_
    subst e2 eH
    cases rv
    exact fin_newL (fz := true) I' hp m (reps_strs H _) q
  | [], h => exact h.elim
  | _ :: _ :: _, h => exact h.elim
theorem m_join : MtD X "str.join" (rdM .join) := by
  intro pins s σ H x xs v us dx ds M Qd I rx rxs r rl m h
  match ds, h with
  | [d], h =>
    obtain ⟨a, ys, e1, e2, hz, q⟩ := h
    subst e1
    obtain ⟨w, rfl, rw'⟩ := repL1 rl
    obtain ⟨p, vs, rfl, hs, r2⟩ := sqOf_rep e2 rw' m
    have ev := repL_map (g := V.str) (fun b v h => rep_str h) r2
    subst ev
    exact thn (mt_join pins s σ H x [.ref p] v us _ I rx rxs ⟨a, p, ys, rep_str r, rfl, hs, hz, wish_same m (mk_str _) q⟩) fun u s' e => .of e
  | [], h => exact h.elim
  | _ :: _ :: _, h => exact h.elim
end
end RX
set_option Elab.async false
set_option linter.all false
set_option maxRecDepth 100000
set_option maxHeartbeats 4000000
/-! RX4b: isinstance, truth, repr, reversal, dict of pairs. -/
namespace RX
open PySem PySem.Spec PyProof.Rows L2
section
variable {X : Cx} {pins : List (Addr × Obj)} {s : Shared} {σ : SV} {H : Hp} {M : MM} {Qd : DV} {K : PySem.W.Frag}
/-! ### isinstance -/
def tyNames : List String := ["NoneType", "bool", "int", "str", "tuple", "list", "dict"]
theorem kit_all : (tyNames.all fun a => ["bool", "int", "str", "tuple", "list", "dict"].all fun b => kitB a b == some (isTy (.bt a) (.bt b))) = true := by decide +kernel
theorem kit_of2 {a b : String} (ha : a ∈ tyNames) (hb : b ∈ ["bool", "int", "str", "tuple", "list", "dict"]) : PySem.W.kitOne K (.type a) (.type b) = some (isTy (.bt a) (.bt b)) := by
  have h := kit_all
  rw [List.all_eq_true] at h
  have h2 := h a ha
  rw [List.all_eq_true] at h2
  exact kit_ty (eq_of_beq (h2 b hb))
theorem tyOf_rep {d : D} {x : V} {n : String} (e : tyOf M d = some (.bt n)) (r : Rep K H d x) (m : RepM K M H) : n ∈ tyNames ∧ TyX K H x (.type n) := by
  unfold tyOf at e
  have tupX : ∀ {a : Addr} {vs : List V}, SqT K H a vs → TyX K H (.ref a) (.type "tuple") := fun {a vs} hs => by
    rcases hs with (h | ⟨o, h⟩) | ⟨o, its, n, h1, h2, _⟩
    · exact .base (.tup h)
    · exact .fTuple h
    · exact .kTuple h1 h2
  have lstX : ∀ {a : Addr} {vs : List V}, LsR K H a vs → TyX K H (.ref a) (.type "list") := fun {a vs} hs => by
    rcases hs with h | ⟨o, h⟩ | ⟨its, n, h1, _⟩
    · exact .base (.lst h)
    · exact .base (.frz h)
    · exact .kList h1 rfl
  cases d with
  | non => cases e; rw [rep_non r]; exact ⟨by decide, .base .non⟩
  | bl b => cases e; rw [rep_bl r]; exact ⟨by decide, .base (.bl b)⟩
  | int b => cases e; rw [rep_int r]; exact ⟨by decide, .base (.int b)⟩
  | str b => cases e; rw [rep_str r]; exact ⟨by decide, .base (.str b)⟩
  | tup ds =>
    cases e
    obtain ⟨a, vs, rfl, hs, _⟩ := rep_tup r
    exact ⟨by decide, tupX hs⟩
  | wtp ds =>
    cases e
    obtain ⟨a, vs, rfl, hs, _⟩ := rep_wtp r
    exact ⟨by decide, tupX hs⟩
  | lst ds =>
    cases e
    obtain ⟨a, vs, rfl, hs, _⟩ := rep_lst r
    exact ⟨by decide, lstX (.inr hs)⟩
  | dct ks ds =>
    cases e
    obtain ⟨a, o, vs, rfl, hs, _⟩ := rep_dct r
    exact ⟨by decide, .fDict hs⟩
  | ref a =>
    cases (rep_ref r)
    simp only at e
    split at e
    · rename_i xs q
      cases e
      obtain ⟨vs, h1, _⟩ := m _ _ q
      exact ⟨by decide, lstX (.inl h1)⟩
    · rename_i ks ds q
      cases e
      obtain ⟨vs, h1, _⟩ := m _ _ q
      exact ⟨by decide, .base (.dK h1)⟩
    · cases e
    · cases e
    · cases e
    · cases e
  | ty n => cases e
  | exc C f x => cases e
  | exn C => cases e
/-! ### truth -/
theorem truD_rep {d : D} {x : V} {b : Bool} (e : truD M d = some b) (r : Rep K H d x) (m : RepM K M H) (hz : ∀ z, d = .str z → z.length ≤ sizeLine) : TruV K x H b := by
  have em : ∀ {ds : List D} {vs : List V}, RepL K H ds vs → (!ds.isEmpty) = !vs.isEmpty := fun {ds vs} rl => by
    have := rl.length
    cases ds <;> cases vs <;> simp_all
  unfold truD at e
  cases d with
  | non => cases e; rw [rep_non r]; exact (rfl : false = false)
  | bl b => cases e; rw [rep_bl r]; exact (rfl : b = b)
  | int b => cases e; rw [rep_int r]; exact rfl
  | str b =>
    cases e
    rw [rep_str r]
    refine ⟨hz b rfl, ?_⟩
    rw [Bool.eq_iff_iff]
    simp
  | tup ds =>
    cases e
    obtain ⟨a, vs, rfl, hs, rl⟩ := rep_tup r
    exact .inr (.inl ⟨vs, hs, em rl⟩)
  | lst ds =>
    cases e
    obtain ⟨a, vs, rfl, hs, rl⟩ := rep_lst r
    exact .inl ⟨vs, hs.sql, em rl⟩
  | ref a =>
    cases (rep_ref r)
    simp only at e
    split at e
    · rename_i xs q
      cases e
      obtain ⟨vs, h1, rl⟩ := m _ _ q
      exact .inl ⟨vs, .inl (.inl h1), em rl⟩
    · cases e
  | dct ks ds => cases e
  | ty n => cases e
  | wtp n => cases e
  | exc C f x => cases e
  | exn C => cases e
/-! ### repr -/
mutual
theorem Vw.nodict : ∀ {d : D} {p : PyData}, Vw M d p → PyData.hasDict p = false
  | _, _, .non => by simp only [PyData.hasDict]
  | _, _, .bl b => by simp only [PyData.hasDict]
  | _, _, .int b => by simp only [PyData.hasDict]
  | _, _, .str b => by simp only [PyData.hasDict]
  | _, _, .tup h => by simp only [PyData.hasDict]; exact VwL.nodict h
  | _, _, .lst h => by simp only [PyData.hasDict]; exact VwL.nodict h
  | _, _, .ref _ h => by simp only [PyData.hasDict]; exact VwL.nodict h
theorem VwL.nodict : ∀ {d : List D} {p : List PyData}, VwL M d p → PyData.hasDictAll p = false
  | _, _, .nil => by simp only [PyData.hasDictAll]
  | _, _, .cons h1 h2 => by simp only [PyData.hasDictAll, Vw.nodict h1, VwL.nodict h2, Bool.or_self]
end
theorem c_repr (hgd : X.A.guards = some []) (hu : X.A.units + 70 < cLine) : CallD X (.builtin "repr") (fun ds M Q => match ds with | [d] => rdRepr d M Q | _ => False) := by
  refine d1 ?_
  intro pins s σ H x u d M Qd I rx r m ⟨p, hv, hs, hd, hz, q⟩
  have dp := hv.dp m r
  have big : ∀ a, u = .ref a → wpAny (model X.prog X.w) X.A (call (.builtin "repr") [u]) (EPD X pins σ M H Qd) X.xe s := fun a e => by
    obtain ⟨as, rd⟩ := Dp.reads I _ _ _ dp rx
    subst e
    refine repr_of_reads' rd hs (PyData.noDict_hsm hv.nodict) hgd (by omega) (fun _ _ e => e) (fun h' t tk hk => ?_) hz
    exact fin_ (v := .str p.shown) (I.kept hk) ⟨t, rfl⟩ m (mk_str _) q
  cases hv with
  | non =>
    cases (rep_non r)
    cases rx
    exact PySem.P.repr_of_none (fin_ (v := .str "None") (I.tok _) ⟨_, rfl⟩ m (mk_str _) q)
  | bl b =>
    cases (rep_bl r)
    cases rx
    exact PySem.P.repr_of_bool (fin_ (v := .str (if b then "True" else "False")) (I.tok _) ⟨_, rfl⟩ m (mk_str _) q)
  | int i =>
    cases (rep_int r)
    obtain ⟨t, rfl⟩ := rx
    have hi : i.natAbs.log2 < 1920 := of_decide_eq_true hs
    exact PySem.P.repr_of_int hi (fin_ (v := .str (toString i)) (I.tok _) ⟨_, rfl⟩ m (mk_str _) q)
  | str z =>
    cases (rep_str r)
    obtain ⟨t, rfl⟩ := rx
    exact PySem.P.repr_of_str (fin_ (v := .str (reprText z)) (I.tok _) ⟨_, rfl⟩ m (mk_str _) q) hz
  | tup h =>
    obtain ⟨a, vs, rfl, _⟩ := rep_tup r
    cases rx
    exact big a rfl
  | lst h =>
    obtain ⟨a, vs, rfl, _⟩ := rep_lst r
    cases rx
    exact big a rfl
  | ref e h =>
    cases (rep_ref r)
    cases rx
    exact big _ rfl
/-! .. empty dicts among it -/
theorem sm_ne {H : Hp} {s : Shared} {pins : List (Addr × Obj)} {σ : SV} (hsm : smB X.K = true) (I : Inv X pins σ H s) {a : Addr} {u : HO} (h : H a = some u) : sysModules ≠ a := fun e => by
  unfold smB at hsm
  cases q : X.K.lookup sysModules with
  | none => rw [q] at hsm; cases hsm
  | some o =>
    have hb := I.mod.kin _ _ q
    have := (I.bs _ _ hb).2
    rw [e, h] at this
    cases this
theorem sm_neK (hsm : smB X.K = true) {a : Addr} {o : Obj} (h : X.K.lookup a = some o) (ho : o.cls = .type "list") : sysModules ≠ a := fun e => by
  unfold smB at hsm
  rw [e, h] at hsm
  have := of_decide_eq_true hsm
  rw [ho] at this
  injection this with e2
  exact absurd e2 (by decide)
mutual
theorem Vs.reads {H : Hp} {s : Shared} {pins : List (Addr × Obj)} {σ : SV} (hsm : smB X.K = true) (I : Inv X pins σ H s) : ∀ {d : D} {p : PyData} {v : V} {u : Value}, Vs M d p → Rep X.K H d v → RelV v u → ∃ as, Reads s.heap u p as ∧ sysModules ∉ as
  | _, _, v, u, .non, r, rx => by cases (rep_non r); cases rx; exact ⟨_, .none, List.not_mem_nil⟩
  | _, _, v, u, .bl b, r, rx => by cases (rep_bl r); cases rx; exact ⟨_, .bool b, List.not_mem_nil⟩
  | _, _, v, u, .int i, r, rx => by cases (rep_int r); obtain ⟨t, rfl⟩ := rx; exact ⟨_, .int i t, List.not_mem_nil⟩
  | _, _, v, u, .str z, r, rx => by cases (rep_str r); obtain ⟨t, rfl⟩ := rx; exact ⟨_, .str z t, List.not_mem_nil⟩
  | _, _, v, u, .tup h, r, rx => by
    obtain ⟨a, vs, rfl, hs, rl⟩ := rep_tup r
    cases rx
    obtain ⟨its, rv, ⟨o, e1, e2, n, e3⟩, _⟩ := I.tuple hs
    obtain ⟨as, h1, h2⟩ := VsL.reads hsm I h rl rv
    exact ⟨as, .tuple e1 e2 e3 (by simpa using h1), h2⟩
  | _, _, v, u, .lst h, r, rx => by
    obtain ⟨a, vs, rfl, hs, rl⟩ := rep_lst r
    cases rx
    have ne : sysModules ≠ a := by
      rcases hs with ⟨o, ho⟩ | ⟨its, n, hk, _⟩
      · exact sm_ne hsm I ho
      · exact sm_neK hsm hk rfl
    obtain ⟨its, rv, pl, _⟩ := I.list hs.sql
    obtain ⟨o, n, e1, e2, _, e3⟩ := pl
    obtain ⟨as, h1, h2⟩ := VsL.reads hsm I h rl rv
    exact ⟨a :: as, .list e1 e2 e3 (by simpa using h1), fun hm => (List.mem_cons.mp hm).elim ne h2⟩
  | _, _, v, u, .dct0, r, rx => by
    obtain ⟨a, o, vs, rfl, hs, hl, rl⟩ := rep_dct r
    cases rx
    have ne := sm_ne hsm I hs
    obtain ⟨_, _, ws, kv, o2, es, ep, e1, e2, e3, _, pr, _⟩ := (I.hok a _ hs).2
    cases (rl.nil_inv)
    cases kv
    have hnil : es.toList = [] := by
      cases h : es.toList with
      | nil => rfl
      | cons x l => rw [h] at pr; cases pr
    exact ⟨[a] ++ [], .dict e1 e2.1 e3 (by rw [hnil]; exact .nil) (by rw [hnil]; exact .nil), fun hm => by
      rw [List.append_nil, List.mem_singleton] at hm
      exact ne hm⟩
theorem VsL.reads {H : Hp} {s : Shared} {pins : List (Addr × Obj)} {σ : SV} (hsm : smB X.K = true) (I : Inv X pins σ H s) : ∀ {d : List D} {p : List PyData} {v : List V} {u : List Value}, VsL M d p → RepL X.K H d v → Vals v u → ∃ as, ReadsAll s.heap u p as ∧ sysModules ∉ as
  | _, _, v, u, .nil, r, rx => by cases r.nil_inv; cases rx; exact ⟨_, .nil, List.not_mem_nil⟩
  | _, _, v, u, .cons h1 h2, r, rx => by
    obtain ⟨v0, vr, rfl, r1, r2⟩ := r.cons_inv
    cases rx with
    | cons a b =>
      obtain ⟨as, x1, x2⟩ := Vs.reads hsm I h1 r1 a
      obtain ⟨bs, y1, y2⟩ := VsL.reads hsm I h2 r2 b
      exact ⟨as ++ bs, .cons x1 y1, fun hm => (List.mem_append.mp hm).elim x2 y2⟩
end
theorem c_reprd (hsm : smB X.K = true) (hgd : X.A.guards = some []) (hu : X.A.units + 70 < cLine) : CallD X (.builtin "repr") (fun ds M Q => match ds with | [d] => rdReprD d M Q | _ => False) := by
  refine d1 ?_
  intro pins s σ H x u d M Qd I rx r m ⟨p, hv, hs, hd, hz, q⟩
  have big : ∀ a, u = .ref a → wpAny (model X.prog X.w) X.A (call (.builtin "repr") [u]) (EPD X pins σ M H Qd) X.xe s := fun a e => by
    obtain ⟨as, rd, nm⟩ := hv.reads hsm I r rx
    subst e
    exact repr_of_reads' rd hs (fun _ => nm) hgd (by omega) (fun _ _ e => e) (fun h' t tk hk => fin_ (v := .str p.shown) (I.kept hk) ⟨t, rfl⟩ m (mk_str _) q) hz
  cases hv with
  | non =>
    cases (rep_non r)
    cases rx
    exact PySem.P.repr_of_none (fin_ (v := .str "None") (I.tok _) ⟨_, rfl⟩ m (mk_str _) q)
  | bl b =>
    cases (rep_bl r)
    cases rx
    exact PySem.P.repr_of_bool (fin_ (v := .str (if b then "True" else "False")) (I.tok _) ⟨_, rfl⟩ m (mk_str _) q)
  | int i =>
    cases (rep_int r)
    obtain ⟨t, rfl⟩ := rx
    have hi : i.natAbs.log2 < 1920 := of_decide_eq_true hs
    exact PySem.P.repr_of_int hi (fin_ (v := .str (toString i)) (I.tok _) ⟨_, rfl⟩ m (mk_str _) q)
  | str z =>
    cases (rep_str r)
    obtain ⟨t, rfl⟩ := rx
    exact PySem.P.repr_of_str (fin_ (v := .str (reprText z)) (I.tok _) ⟨_, rfl⟩ m (mk_str _) q) hz
  | tup h =>
    obtain ⟨a, vs, rfl, _⟩ := rep_tup r
    cases rx
    exact big a rfl
  | lst h =>
    obtain ⟨a, vs, rfl, _⟩ := rep_lst r
    cases rx
    exact big a rfl
  | dct0 =>
    obtain ⟨a, o, vs, rfl, _⟩ := rep_dct r
    cases rx
    exact big a rfl
end
/-! ### [::-1] -/
section
variable {prog : Program} {w : World} {A : Around} {E : Value → Shared → Prop} {s : Shared}
theorem sliceApplied_rev {sl : Addr} {n : Nat} {u : Tok} {Q : Int × Int × Nat → Shared → Prop} (hs : s.heap.IsSliceOf sl .none .none (.int (-1) u)) (h : Q ((n : Int) - 1, -1, n) s) : wpAny (model prog w) A (Builtin.Slice.sliceApplied (.ref sl) (pure (n : Int))) Q E s := by
  obtain ⟨os, hos, hcs, hds⟩ := id hs
  unfold Builtin.Slice.sliceApplied Builtin.Slice.sliceFields
  refine wpAny_bind (wpAny_bind (wpAny_field hos hds (x := .none) rfl (wpAny_bind (wpAny_field hos hds (x := .none) rfl (wpAny_bind (wpAny_field hos hds (x := .int (-1) u) rfl (wpAny_pure ?_)))))))
  refine wpAny_bind (slicePart_int ?_)
  show wpAny _ _ (if ((-1 : Int) == 0) = true then _ else _) _ _ s
  rw [if_neg (by decide)]
  refine wpAny_bind (slicePart_none (wpAny_bind (slicePart_none (wpAny_bind (wpAny_pure ?_)))))
  show wpAny _ _ (match Builtin.Slice.sliceAdjust none none (-1) (n : Int) with | (lo, hi) => pure (lo, (-1 : Int), Builtin.Slice.slicePlaces lo hi (-1))) _ _ s
  have e1 : Builtin.Slice.sliceAdjust none none (-1) (n : Int) = ((n : Int) - 1, -1) := by
    unfold Builtin.Slice.sliceAdjust
    simp
  have e2 : Builtin.Slice.slicePlaces ((n : Int) - 1) (-1) (-1) = n := by
    unfold Builtin.Slice.slicePlaces
    rw [if_neg (by decide)]
    by_cases hn : n = 0
    · subst hn; decide
    · rw [if_pos (by omega)]
      have : ((n : Int) - 1 - -1 - 1) / (- -1) + 1 = n := by
        rw [show (- -1 : Int) = 1 from rfl, Int.ediv_one]
        omega
      rw [this]
      exact Int.toNat_natCast n
  rw [e1]
  show wpAny _ _ (pure ((n : Int) - 1, (-1 : Int), Builtin.Slice.slicePlaces ((n : Int) - 1) (-1) (-1))) _ _ s
  rw [e2]
  exact wpAny_pure h
theorem pick_rev (xs : List Value) : ((List.range xs.length).filterMap fun (k : Nat) => xs.toArray[(((xs.length : Int) - 1) + (k : Int) * (-1)).toNat]?) = xs.reverse := by
  have h : ∀ n, n ≤ xs.length → ((List.range n).filterMap fun (k : Nat) => xs.toArray[(((xs.length : Int) - 1) + (k : Int) * (-1)).toNat]?) = xs.reverse.take n := by
    intro n
    induction n with
    | zero => intro _; simp
    | succ n ih =>
      intro hn
      rw [List.range_succ, List.filterMap_append, ih (by omega)]
      have hi : (((xs.length : Int) - 1) + (n : Int) * (-1)).toNat = xs.length - 1 - n := by omega
      have hlt : n < xs.reverse.length := by rw [List.length_reverse]; omega
      rw [List.take_succ_eq_append_getElem hlt]
      congr 1
      simp only [List.filterMap_cons, List.filterMap_nil, hi]
      have e : xs.toArray[xs.length - 1 - n]? = some (xs.reverse[n]) := by
        rw [List.getElem?_toArray, List.getElem_reverse, List.getElem?_eq_getElem (by omega)]
      rw [e]
  have := h xs.length (Nat.le_refl _)
  rw [this, List.take_of_length_le (by rw [List.length_reverse]; exact Nat.le_refl _)]
theorem getItem_tuple_rev {t sl : Addr} {its : List Value} {u : Tok} {Q : Value → Shared → Prop} (ht : IsTup s.heap t its.toArray) (hs : s.heap.IsSliceOf sl .none .none (.int (-1) u)) (hsz : its.length ≤ sizeLine)
    (h : Q (.ref s.heap.objs.size) { s with heap := s.heap.push { cls := .type "tuple", data := .seq its.reverse.toArray } }) : wpAny (model prog w) A (getItem (.ref t) (.ref sl)) Q E s := by
  have htake : sizeOk (.seq its.reverse.toArray) := by
    show its.reverse.toArray.size ≤ sizeLine
    rw [List.size_toArray, List.length_reverse]
    exact hsz
  obtain ⟨os, hos, hcs, hds⟩ := id hs
  have hTs : s.TypeIs (.ref sl) "slice" := ⟨os, hos, hcs⟩
  unfold getItem
  try with_reducible refine wpAny_holding ?_
  first | refine wpAny_bind (wpAny_pure ?_) | skip
  refine wpAny_bind (wpAny_sequenceKey ht.typeIs (by decide) ?_)
  refine wpAny_bind (wpAny_callSpecial?_slot (name := Str.ofString "__getitem__") ht.typeIs PyProof.Rows.slot_tuple_getitem
    (wpAny_call_entry PyProof.Rows.slot_tuple_getitem ht.typeIs entry_tuple_getitem ?_ (args_tuple_getitem _ _)))
  show wpAny _ _ (Builtin.Tuple.tupleItemsOf (.ref t) >>= _) _ _ s
  refine wpAny_bind (PyProof.Rows.tupleItemsOf_ ht ?_)
  refine wpAny_bind (wpAny_typeOf hTs ?_)
  rw [if_pos (by decide)]
  refine wpAny_bind (sliceApplied_rev (n := its.toArray.size) hs ?_)
  show wpAny _ _ (if ((((its.toArray.size : Nat) : Int) - 1 == 0 && (-1 : Int) == 1 && its.toArray.size == its.toArray.size)) = true then _ else _) _ _ s
  have hno : ¬ (((((its.toArray.size : Nat) : Int) - 1 == 0 && (-1 : Int) == 1 && its.toArray.size == its.toArray.size)) = true) := by simp
  rw [if_neg hno]
  have hp : ((List.range its.toArray.size).filterMap fun (k : Nat) => its.toArray[((((its.toArray.size : Nat) : Int) - 1) + (k : Int) * (-1)).toNat]?) = its.reverse := by
    rw [List.size_toArray]
    exact pick_rev its
  rw [hp]
  first
    | exact wpAny_bind (m := Builtin.Tuple.tupleExact _) (wpAny_newObj_type (wpAny_pure ⟨_, rfl, wpAny_pure h⟩) htake)
    | exact wpAny_bind (m := Builtin.Tuple.tupleExact _) (wpAny_newObj_type (wpAny_bind (wpAny_pure (wpAny_pure ⟨_, rfl, wpAny_pure h⟩))) htake)
    | exact wpAny_bind (wpAny_bind (m := Builtin.Tuple.tupleExact _) (wpAny_newObj_type (wpAny_pure (wpAny_pure ⟨_, rfl, wpAny_pure h⟩)) htake))
    | exact wpAny_bind (wpAny_bind (m := Builtin.Tuple.tupleExact _) (wpAny_newObj_type (wpAny_pure ⟨_, rfl, wpAny_pure h⟩) htake))
end
section
variable {X : Cx} {B : Bs}
theorem pe_rev {fz : Bool} {e : Expr} {te : DE} {k : Nat} {p1 p2 p3 pos : Pos} (he : PE X e (LE X.K B te)) :
    PE X (.Subscript e (.Slice none none (some (.UnaryOp .USub (.Constant (.int 1) k p1) p2)) p3) pos) (LE X.K B fun σ M Q => te σ M fun x M1 => rdRev fz x M1 Q) := by
  refine pe_of fun pins s σ H σd M Qd I a ht => ?_
  refine Subscript_ (thn (RX.PE.at he I a ht) fun v s1 ⟨d, M1, x, H1, I1, r1, f1, rd, m1, q⟩ => ?_)
  have hst : PO X (some (.UnaryOp .USub (.Constant (.int 1) k p1) p2)) (tPart (tUn (rU fun i => .int (-i)) (tC (.int 1)))) := po_some (pe_un un_neg pe_int)
  refine wpAny_Slice (thn (po_none.run pins s1 σ H1 (fun o H2 => o = none ∧ H2 = H1) I1 ⟨rfl, rfl⟩) fun vl s2 ⟨l, H2, I2, pl, el, e2⟩ => ?_)
  subst el e2
  refine thn (po_none.run pins s2 σ H2 (fun o H3 => o = none ∧ H3 = H2) I2 ⟨rfl, rfl⟩) fun vu s3 ⟨u, H3, I3, pu, eu, e3⟩ => ?_
  subst eu e3
  refine thn (hst.run pins s3 σ H3 (fun o H4 => o = some (-1) ∧ H4 = H3) I3 ⟨1, rfl, -1, rfl, rfl, rfl⟩) fun vs s4 ⟨o, H4, I4, ps, eo, e4⟩ => ?_
  subst eo e4
  have I5 : Inv X pins σ H4 { s4 with heap := s4.heap.push { cls := .type "slice", data := .fields #[vl, vu, vs] } } := I4.kept (t' := s4.toks) fun b ob q => Heap.get?_push_of_some _ q
  show wpAny (model X.prog X.w) X.A (subscriptTail e (.Slice none none (some (.UnaryOp .USub (.Constant (.int 1) k p1) p2)) p3) v (.ref s4.heap.objs.size)) (EPD X pins σ M H Qd) X.xe { s4 with heap := s4.heap.push { cls := .type "slice", data := .fields #[vl, vu, vs] } }
  have go : ∀ {u : Value} {s' : Shared}, EPD X pins σ M1 H4 Qd u s' → EPD X pins σ M H Qd u s' := fun ⟨d, M', v, H', i, r, f, rr, mm, qq⟩ => ⟨d, M', v, H', i, r, f1.trans f, rr, mm, qq⟩
  have lists : ∀ {ys : List D}, lsOf M1 d = some ys → newL fz ys.reverse M1 Qd → wpAny (model X.prog X.w) X.A (subscriptTail e (.Slice none none (some (.UnaryOp .USub (.Constant (.int 1) k p1) p2)) p3) v (.ref s4.heap.objs.size)) (EPD X pins σ M H Qd) X.xe { s4 with heap := s4.heap.push { cls := .type "slice", data := .fields #[vl, vu, vs] } } := by
    intro ys e' q
    obtain ⟨p, ws, rfl, hl, rl⟩ := lsOf_rep e' rd m1
    cases r1
    obtain ⟨its, r, ht, hz⟩ := I5.list hl.sql
    have hlen := r.length
    refine tail_any (ops := [.ref p, .ref s4.heap.objs.size]) ht.isList.typeIs (PySem.slot_list_getitem.lookup) ?_ (by with_unfolding_all rfl)
    refine wpAny_getItem_list_slice ht.isList (Heap.IsSliceOf.new _ vl vu vs) pl pu ps (by decide) ?_ (by rw [List.size_toArray]; omega)
    rw [PySem.W.krv_pick]
    exact go (fin_newL (I5.lnew (t' := s4.toks) r.reverse (by rw [List.length_reverse]; exact hz)) I5.fresh m1 rl.reverse q)
  have q : rdRev fz d M1 Qd := q
  unfold rdRev at q
  split at q
  · rename_i xs
    obtain ⟨p, ws, rfl, hp, rl⟩ := rep_tup rd
    cases r1
    obtain ⟨its, r, ht, hz⟩ := I5.tuple hp
    have hlen := r.length
    cases pl
    cases pu
    cases ps
    refine tail_any (ops := [.ref p, .ref s4.heap.objs.size]) ht.typeIs (PyProof.Rows.slot_tuple_getitem.lookup) ?_ (by with_unfolding_all rfl)
    exact getItem_tuple_rev ht (Heap.IsSliceOf.new _ _ _ _) (by omega) (go (fin_newT (h' := s4.heap.push _) I5 m1 rl.reverse r.reverse (by rw [List.length_reverse]; exact hz) q))
  · obtain ⟨ys, e', q⟩ := q
    exact lists e' q
end
end RX
set_option Elab.async false
set_option linter.all false
set_option maxRecDepth 100000
set_option maxHeartbeats 4000000
/-! RX5: defs as promises over trees (the stack is known to hold no repr), and their calls. -/
namespace RX
open PySem PySem.Spec PyProof.Rows L2

abbrev XF : XD := fun _ _ _ _ => False
abbrev EF : ED := EF0
/-- the wish at the values -/
def KQ (K : PySem.W.Frag) (M : MM) (H : Hp) (Qd : DV) : VK := fun v H' => ∃ d M', Fr M H M' H' ∧ Rep K H' d v ∧ RepM K M' H' ∧ Qd d M'
/-- an exception that leaves a def: what is wished of it -/
def KXd (K : PySem.W.Frag) (M : MM) (H : Hp) (E : XD) : XK := fun cls d H' => ∃ (C f : Str) (x : D) (dx : Addr) (v : V) (M' : MM), cls = .ref (He.ga K C) ∧ d = some dx ∧ XdF H' dx f v ∧ Rep K H' x v ∧ RepM K M' H' ∧ Fr M H M' H' ∧ E C [f] [x] M'
theorem KXd.no {K : PySem.W.Frag} {M : MM} {H : Hp} {cls : Value} {d : Option Addr} {H' : Hp} (h : KXd K M H XF cls d H') : False := by
  obtain ⟨_, _, _, _, _, _, _, _, _, _, _, _, e⟩ := h
  exact e
/-- .. in the frame itself, its slots told -/
def WXE (K : PySem.W.Frag) (B : Bs) (E : ED) : WX := fun cls d σ H => ∃ (C f : Str) (x : D) (dx : Addr) (v : V) (σd : DSt) (M : MM), cls = .ref (He.ga K C) ∧ d = some dx ∧ XdF H dx f v ∧ Rep K H x v ∧ At K B H σd M σ ∧ E C [f] [x] σd M
theorem takes_no {X : Cx} {B : Bs} : Takes X (WXE X.K B EF) := fun u s' ⟨_, _, _, _, _, _, _, _, _, _, _, _, _, _, _, _, w⟩ => by
  obtain ⟨_, _, _, _, _, _, _, _, _, _, _, _, e⟩ := w
  exact e.elim
theorem cx_no {P : Program} {w : World} {outer : List Env} {H : Hp} {s : Shared} {K : PySem.W.Frag} {M : MM} {H0 : Hp} {e : Value} {s' : Shared} (h : L2.CX P w outer H s (KXd K M H0 XF) e s') : False := by
  obtain ⟨_, _, _, _, _, _, _, _, _, _, _, _, k⟩ := h
  exact k.no
structure FnG (P : Program) (w : World) (K : PySem.W.Frag) (mg : Str → Option Value) (base : Heap) (k : Nat) (f : Addr) (fd : FuncData) (ps : List Str) (g : CallT) : Prop where
  len : ∀ ds M Q E, g ds M Q E → ds.length = ps.length
  run : ∀ (A : Around) (outer : List Env) (s : Shared) (H : Hp) (args : Args) (us : List Value) (vs : List V) (ds : List D) (M : MM) (Qd : DV) (Ed : XD), Room k A → A.guards = some [] → Env0 P w K mg base A outer s H → BindsTo s fd args (ps.zip us) → Vals vs us →
    RepL K H ds vs → RepM K M H → g ds M Qd Ed → codeAny (model P w) A (.call (.ref f) args) (CR (L2.CX P w) outer P w H s (KQ K M H Qd) (KXd K M H Ed)) s
theorem FnG.mono {P : Program} {w : World} {K : PySem.W.Frag} {mg : Str → Option Value} {base : Heap} {j k : Nat} {f : Addr} {fd : FuncData} {ps : List Str} {g : CallT} (F : FnG P w K mg base j f fd ps g) (h : j ≤ k) : FnG P w K mg base k f fd ps g :=
  ⟨F.len, fun A outer s H args us vs ds M Qd Ed r => F.run A outer s H args us vs ds M Qd Ed (r.mono h)⟩
/-- a def by its body -/
theorem fnG_of {P : Program} {w : World} {K : PySem.W.Frag} {mg : Str → Option Value} {base : Heap} {k : Nat} {x qual : Str} {params : Arguments} {body : List Stmt} {scope : Scope} {f : Addr} {fd : FuncData} {N ps : List Str} {g : CallT}
    (F : FunD K x qual params body scope [] [] f fd) (S : FnScope N ps scope) (len : ∀ ds M Q E, g ds M Q E → ds.length = ps.length)
    (hbody : ∀ (cdv : Value) (A : Around) (outer : List Env) (s : Shared) (H : Hp) (vs : List V) (ds : List D) (M : MM) (Qd : DV) (Ed : XD), Room (k + 1) A → (∃ o fd', K.lookup f = some o ∧ o.data = .func fd' ∧ fd'.code = cdv ∧ PySem.W.codeIn K cdv qual = true) → Room k (A.deeper (envOfC qual scope s.heap.objs.size f cdv)) → A.guards = some [] → RepL K H ds vs → RepM K M H → g ds M Qd Ed →
      ∃ t, PSs (cxOf (L2.CX P w) P w K mg base N qual scope f cdv A outer s H (KXd K M H Ed)) body t ∧ t { nx := fun _ H' => KQ K M H Qd .non H', rt := KQ K M H Qd } (start N vs) H) : FnG P w K mg base (k + 1) f fd ps g := by
  refine ⟨len, fun A outer s H args us vs ds M Qd Ed hr hgd e0 hb r rl rm hg => ?_⟩
  let sp : Sp := fun vs' H' Q _ => RepL K H' ds vs' ∧ RepM K M H' ∧ (∀ v H2, KQ K M H' Qd v H2 → Q v H2) ∧ vs' = vs ∧ H' = H
  obtain ⟨oc, od, dV, kV, doc, pm, an, cdv, ct, osl, rfl, lk, hcd, _, _⟩ := F.ex
  have hl : vs.length = ps.length := by rw [← rl.length]; exact len _ _ _ _ hg
  have KX : K.In s.heap := e0.mod.kin.keeps fun b o e => (e0.bs b o e).1
  have lim : s.heap.NoLimit := e0.mod.nolimit.keeps fun b o e => (e0.bs b o e).1
  have hkind : ∀ y ∈ ps.zip us, scope.names.lookup y.1 = some .local ∨ (scope.names.lookup y.1 = some .cell ∧ ((cellsFrom (s.heap.objs.size + 1) scope.names []).lookup y.1).isSome = true) := fun ⟨n, v⟩ hy => by
    rcases S.par n (List.of_mem_zip hy).1 with q | q
    · exact .inl q
    · exact .inr ⟨q, PySem.W.cellsFrom_some _ _ _ (.inl q)⟩
  refine codeAny_call_function hr.depth (KX _ _ lk) rfl S.co S.gen rfl (PySem.W.codeRec_of KX hcd) (hb _ _ _ _ ?_)
  refine wpAny_newFunctionEnv_cells S.kind hkind fun env he s1 x => ?_
  subst he
  refine ⟨lim.keeps x.toInCall.keep, codeAny_func ?_⟩
  obtain ⟨t, ht, hq⟩ := hbody cdv A outer s H vs ds M Qd Ed hr ⟨_, _, lk, rfl, rfl, hcd⟩ (hr.deeper _) hgd rl rm hg
  have I : Inv (cxOf (L2.CX P w) P w K mg base N qual scope f cdv A outer s H (KXd K M H Ed)) [] (start N vs) H s1 := inv_start S hr.hd e0 hl r x
  refine wpAny_mono (ht.run [] s1 (start N vs) H _ I hq) (fun fl s' hs => ?_) fun e s' hs => hs
  have fin : ∀ {σ' : SV} {H' : Hp} {v : V} {u : Value}, Inv (cxOf (L2.CX P w) P w K mg base N qual scope f cdv A outer s H (KXd K M H Ed)) [] σ' H' s' → RelV v u → KQ K M H Qd v H' → L2.CE outer P w H s (KQ K M H Qd) u s' :=
    fun {σ' H' v u} J rv q => ⟨v, H', J.os, J.bare, J.base, J.hok, rv, q⟩
  cases fl with
  | ret u =>
    obtain ⟨v, σ', H', J, rv, q⟩ := hs
    exact fin J rv q
  | next =>
    obtain ⟨σ', H', J, q⟩ := hs
    exact fin (v := V.non) (u := Value.none) J rfl q
  | brk =>
    obtain ⟨_, _, _, q⟩ := hs
    exact False.elim q
  | cont =>
    obtain ⟨_, _, _, q⟩ := hs
    exact False.elim q

section
variable {X : Cx} {k : Nat} {f C : Addr} {fd : FuncData} {ps : List Str} {g : CallT} {pins : List (Addr × Obj)} {σ : SV} {H : Hp} {s : Shared} {M : MM} {Qd : DV}
/-- the callee runs -/
theorem run_g {us : List Value} {vs : List V} {ds : List D} {kw : List (Str × Value)} {bs : List Value} (F : FnG X.prog X.w X.K X.mg X.base k f fd ps g) (hr : Room k X.A) (hgd : X.A.guards = some []) (I : Inv X pins σ H s)
    (hb : BindsTo s fd ⟨us, kw⟩ (ps.zip bs)) (r : Vals vs bs) (rl : RepL X.K H ds vs) (rm : RepM X.K M H) {W : WX} {Ed : XD} (tk : Takes X W) (hW : ∀ cls d H', KXd X.K M H Ed cls d H' → W cls d σ H') (q : g ds M Qd Ed) : wpAny (model X.prog X.w) X.A (call (.ref f) us kw) (EPD X pins σ M H Qd) X.xe s := by
  refine wpAny_call (codeAny_mono (F.run X.A X.stack s H ⟨us, kw⟩ bs vs ds M Qd Ed hr hgd I.env0 hb r rl rm q) fun r s' hq => ?_)
  cases r with
  | error e => exact tk _ _ (XE.of_call I hW hq)
  | ok fl =>
    cases fl with
    | ret u => exact .of (I.after hq)
    | next => exact False.elim hq
    | brk => exact False.elim hq
    | cont => exact False.elim hq
/-- C(..): a new instance, then its __init__ -/
theorem run_mk {us : List Value} {vs : List V} {ds : List D} {Cn : Str} {kw : List (Str × Value)} {bs : Value → List Value} (hC : C = He.ga X.K Cn) (Mk0 : Mk X.K C f) (F : FnG X.prog X.w X.K X.mg X.base k f fd ps g) (hr : Room (k + 1) X.A) (hgd : X.A.guards = some [])
    (I : Inv X pins σ H s) (hb : ∀ (s : Shared) (y : Value), X.K.In s.heap → BindsTo s fd ⟨y :: us, kw⟩ (ps.zip (bs y))) (r : ∀ y u, RelV y u → Vals (y :: vs) (bs u)) (rl : RepL X.K H ds vs) (rm : RepM X.K M H)
    (q : ∀ p, M p = none → g (.ref p :: ds) (up M p (.ins Cn [] [])) (fun d M2 => d = .non ∧ Qd (.ref p) M2) XF) : wpAny (model X.prog X.w) X.A (call (.ref C) us kw) (EPD X pins σ M H Qd) X.xe s := by
  have f1 : H (s.heap.objs.size + 1) = none := I.hok.fresh (Nat.le_succ _)
  have f0 : H s.heap.objs.size = none := I.hok.fresh (Nat.le_refl _)
  have ne : s.heap.objs.size + 1 ≠ s.heap.objs.size := Nat.succ_ne_self _
  have f2 : upd H s.heap.objs.size (.own (s.heap.objs.size + 1)) (s.heap.objs.size + 1) = none := by rw [upd_ne ne]; exact f1
  have I2 := Inv.made (C := C) I
  have m2 : RepM X.K (up M (s.heap.objs.size + 1) (.ins Cn [] [])) (upd (upd H s.heap.objs.size (.own (s.heap.objs.size + 1))) (s.heap.objs.size + 1) (.ins C s.heap.objs.size [])) :=
    (rm.hid f0).new f2 ⟨s.heap.objs.size, [], by rw [upd_same, hC]; rfl, rfl, .nil⟩
  have fr : Fr M H (up M (s.heap.objs.size + 1) (.ins Cn [] [])) (upd (upd H s.heap.objs.size (.own (s.heap.objs.size + 1))) (s.heap.objs.size + 1) (.ins C s.heap.objs.size [])) := (Fr.hid f0).trans (Fr.new f2)
  have rl2 := rl.keep (fr.keep rm)
  refine wpAny_call (make_map (f := f) I.kIn Mk0.makes Mk0.init (beq_iff_eq.mp Mk0.fn) (codeAny_mono (F.run _ X.stack _ _ ⟨Value.ref (s.heap.objs.size + 1) :: us, kw⟩ (bs (Value.ref (s.heap.objs.size + 1))) (V.ref (s.heap.objs.size + 1) :: vs) (.ref (s.heap.objs.size + 1) :: ds) _ _ XF
    (hr.make C us kw) ?_ (I2.env0.make C us kw) (hb _ _ I2.kIn) (r _ _ rfl) (.cons (mk_ref _) rl2) m2 (q _ (rm.free f1))) fun r s' hq' => ?_))
  · simp only [Around.under, hgd]
    first | rfl | simp [Code.guards, Code.isGuard, guardIds, pushGuards] | decide +kernel
  · cases r with
    | error e => exact (cx_no hq').elim
    | ok fl =>
      cases fl with
      | ret u =>
        obtain ⟨v, H', I3, rv, d, M', f3, r3, m3, ed, q3⟩ := I2.after hq'
        subst ed
        cases (rep_non r3)
        exact ⟨rv, ⟨.ref (s.heap.objs.size + 1), M', V.ref (s.heap.objs.size + 1), H', I3, rfl, fr.trans f3, mk_ref _, m3, q3⟩⟩
      | next => exact False.elim hq'
      | brk => exact False.elim hq'
      | cont => exact False.elim hq'
end
end RX
set_option Elab.async false
set_option linter.all false
set_option maxRecDepth 100000
set_option maxHeartbeats 4000000
/-! RX6: the layer's rules with wishes over trees. -/
namespace RX
open PySem PySem.Spec PyProof.Rows L2

/-- nothing but these slots is written -/
structure Same (vs : List Nat) (σ σ' : SV) : Prop where
  len : σ'.length = σ.length
  eq : ∀ i, i ∉ vs → σ'[i]? = σ[i]?
theorem Same.refl {vs : List Nat} {σ : SV} : Same vs σ σ := ⟨rfl, fun _ _ => rfl⟩
theorem Same.trans {vs ws : List Nat} {σ σ1 σ2 : SV} (a : Same vs σ σ1) (b : Same ws σ1 σ2) : Same (vs ++ ws) σ σ2 :=
  ⟨b.len.trans a.len, fun i h => by
    rw [List.mem_append, not_or] at h
    exact (b.eq i h.2).trans (a.eq i h.1)⟩
theorem Same.set {i : Nat} {σ : SV} {v : Option V} : Same [i] σ (σ.set i v) := ⟨List.length_set, fun j h => by
  rw [List.mem_singleton] at h
  exact List.getElem?_set_ne fun e => h e.symm⟩
theorem wipe_get (σ : SV) (i : Nat) : ∀ vs : List Nat, (wipe σ vs)[i]? = if i ∈ vs then (σ[i]?).map fun _ => none else σ[i]?
  | [] => by simp [wipe]
  | v :: vs => by
    unfold wipe
    by_cases h : i = v
    · subst h
      rw [if_pos (by simp)]
      by_cases hl : i < (wipe σ vs).length
      · rw [List.getElem?_set_self hl]
        rw [wipe_length] at hl
        rw [List.getElem?_eq_getElem hl]
        rfl
      · have hl2 : ¬ i < σ.length := by rw [wipe_length] at hl; exact hl
        rw [List.getElem?_eq_none (by rw [List.length_set]; omega), List.getElem?_eq_none (by omega)]
        rfl
    · rw [List.getElem?_set_ne (fun e => h e.symm), wipe_get σ i vs]
      simp [h]
theorem Same.wipe {ws vs : List Nat} {σ σ' : SV} (s : Same ws (L2.wipe σ vs) σ') (h : ∀ i ∈ ws, i ∈ vs) : L2.wipe σ' vs = L2.wipe σ vs := by
  refine List.ext_getElem? fun i => ?_
  rw [wipe_get, wipe_get]
  by_cases hi : i ∈ vs
  · rw [if_pos hi, if_pos hi]
    have e : σ'.length = σ.length := by rw [s.len, wipe_length]
    by_cases hl : i < σ.length
    · rw [List.getElem?_eq_getElem hl, List.getElem?_eq_getElem (by rw [e]; exact hl)]
      rfl
    · rw [List.getElem?_eq_none (by omega), List.getElem?_eq_none (by omega)]
  · rw [if_neg hi, if_neg hi, s.eq i fun z => hi (h i z), wipe_get, if_neg hi]

abbrev DI := DSt → MM → (List D → (MM → Prop) → MM → Prop) → Prop
/-- the iterator yields xs, as long as stab holds -/
structure ItOk (K : PySem.W.Frag) (M0 : MM) (H0 : Hp) (J : It) (xs : List D) (stab : MM → Prop) : Prop where
  go : ∀ i M H, Fr M0 H0 M H → RepM K M H → stab M → i < xs.length → J.go i H
  stop : ∀ M H, Fr M0 H0 M H → RepM K M H → stab M → J.stop xs.length H
  yld : ∀ i M H x H', Fr M0 H0 M H → RepM K M H → stab M → i < xs.length → J.yld i H x H' → ∃ d, xs[i]? = some d ∧ Rep K H' d x ∧ Fr M H M H' ∧ RepM K M H'
def LI (K : PySem.W.Frag) (B : Bs) (t : DI) : TI := fun σ H R => ∃ σd M Rd, At K B H σd M σ ∧ t σd M Rd ∧ ∀ xs stab M' J H', Fr M H M' H' → RepM K M' H' → ItOk K M' H' J xs stab → Rd xs stab M' → R J H'
def LGw (K : PySem.W.Frag) (B : Bs) (ws : List Nat) (t : DG) : TG := fun v σ H Q => ∃ d σd M Qd, Rep K H d v ∧ At K B H σd M σ ∧ t d σd M Qd ∧ ∀ σd' M' σ' H', Same ws σ σ' → Fr M H M' H' → RepS K H' σd' σ' → RepM K M' H' → Qd σd' M' → Q σ' H'
def LGsw (K : PySem.W.Frag) (B : Bs) (ws : List Nat) (t : DGs) : TGs := fun vs σ H Q => ∃ ds σd M Qd, RepL K H ds vs ∧ At K B H σd M σ ∧ t ds σd M Qd ∧ ∀ σd' M' σ' H', Same ws σ σ' → Fr M H M' H' → RepS K H' σd' σ' → RepM K M' H' → Qd σd' M' → Q σ' H'

section
variable {X : Cx} {B : Bs} {pos : Pos}
theorem le_tv {v : V} {d : D} {e : Expr} (h : PE X e (tC v)) (r : ∀ H, Rep X.K H d v) : PE X e (LE X.K B fun _ M Q => Q d M) :=
  h.imp fun σ H Q ⟨σd, M, Qd, a, q, k⟩ => k d M v H .refl (r H) a.m q
theorem le_var {i : Nat} {x : Str} (h : PE X (.Name x pos) (tVar i)) : PE X (.Name x pos) (LE X.K B fun σ M Q => ∃ d, σ[i]? = some (some d) ∧ Q d M) :=
  h.imp fun σ H Q ⟨σd, M, Qd, a, ⟨d, e, q⟩, k⟩ => by
    obtain ⟨v, e1, r⟩ := a.s.get e
    exact ⟨v, e1, k d M v H .refl r a.m q⟩
theorem LE.seq {K : PySem.W.Frag} {ta : DE} {σ : SV} {H : Hp} {σd : DSt} {M : MM} {Qd : DV} {Q : VK} (a : At K B H σd M σ) (t : ta σd M Qd) (k : ∀ d M' v H', Fr M H M' H' → At K B H' σd M' σ → Rep K H' d v → Qd d M' → Q v H') : LE K B ta σ H Q :=
  ⟨σd, M, Qd, a, t, fun d M' v H' f r m q => k d M' v H' f (a.go f m) r q⟩
theorem le_bin {o : Operator} {fz : Bool} {a b : Expr} {ta tb : DE} (ha : PE X a (LE X.K B ta)) (hb : PE X b (LE X.K B tb)) :
    PE X (.BinOp a o b pos) (LE X.K B fun σ M Q => ta σ M fun x M1 => tb σ M1 fun y M2 => rdBin o fz x y M2 Q) :=
  (pe_op (opr_of (d_bin o fz)) ha hb).imp fun σ H Q ⟨σd, M, Qd, a, t, k⟩ => LE.seq a t fun d1 M1 v1 H1 f1 a1 r1 q1 => LE.seq a1 q1 fun d2 M2 v2 H2 f2 a2 r2 q2 =>
    ⟨d1, d2, M2, Qd, a1.rep f2 r1, r2, a2.m, q2, fun d3 M3 v3 H3 f3 r3 m3 q3 => k d3 M3 v3 H3 ((f1.trans f2).trans f3) r3 m3 q3⟩
theorem le_cmp {o : CmpOp} {a b : Expr} {ta tb : DE} (hu : X.A.units + 65 < cLine) (ha : PE X a (LE X.K B ta)) (hb : PE X b (LE X.K B tb)) (hm : behindInMarks o b = false) :
    PE X (.Compare a [o] [b] pos) (LE X.K B fun σ M Q => ta σ M fun x M1 => tb σ M1 fun y M2 => rdCmp o x y M2 fun c M3 => Q (.bl c) M3) :=
  (pe_cmpR (opr_of (d_cmp o hu)) ha hb hm).imp fun σ H Q ⟨σd, M, Qd, a, t, k⟩ => LE.seq a t fun d1 M1 v1 H1 f1 a1 r1 q1 => LE.seq a1 q1 fun d2 M2 v2 H2 f2 a2 r2 q2 =>
    ⟨d1, d2, M2, Qd, a1.rep f2 r1, r2, a2.m, q2, fun d3 M3 v3 H3 f3 r3 m3 q3 => k d3 M3 v3 H3 ((f1.trans f2).trans f3) r3 m3 q3⟩
/-- a value that is a bool, as a test -/
theorem lt_val {e : Expr} {t : DT} (h : PE X e (LE X.K B fun σ M Q => t σ M fun b M' => Q (.bl b) M')) (he : ∀ whole, isTrue e X.env whole = (do let v ← whole; standAt e.pos; holding [v] (truthy v))) : PT X e (LT X.K B t) := by
  refine ⟨fun pins s σ H Q I ⟨σd, M, Qd, a, ht, k⟩ => ?_⟩
  refine (pt_val h he).run pins s σ H Q I ?_
  refine ⟨σd, M, fun d M' => ∃ b, d = .bl b ∧ Qd b M', a, ?_, fun d M' v H' f r m ⟨b, e, q⟩ => ⟨b, by rw [e] at r; exact rep_bl r, k b M' H' f m q⟩⟩
  have e : (fun b M' => ∃ b', D.bl b = .bl b' ∧ Qd b' M') = Qd := by funext b M'; exact propext ⟨fun ⟨b', e, q⟩ => by cases e; exact q, fun q => ⟨b, rfl, q⟩⟩
  show t σd M (fun b M' => ∃ b', D.bl b = .bl b' ∧ Qd b' M')
  rw [e]
  exact ht
/-- from the value's own wish -/
theorem lt_valE {e : Expr} {t : DE} (h : PE X e (LE X.K B t)) (he : ∀ whole, isTrue e X.env whole = (do let v ← whole; standAt e.pos; holding [v] (truthy v))) : PT X e (LT X.K B fun σ M Q => t σ M fun x M1 => ∃ b, x = .bl b ∧ Q b M1) := by
  refine ⟨fun pins s σ H Q I ⟨σd, M, Qd, a, t, k⟩ => ?_⟩
  exact (pt_val h he).run pins s σ H Q I ⟨σd, M, _, a, t, fun d M' v H' f r m ⟨b, e, q⟩ => ⟨b, by rw [e] at r; exact rep_bl r, k b M' H' f m q⟩⟩
theorem lv_valE {e : Expr} {t : DE} (h : PE X e (LE X.K B t)) : PE X e (LE X.K B fun σ M Q => t σ M fun x M1 => ∃ b, x = .bl b ∧ Q (.bl b) M1) :=
  h.imp fun σ H Q ⟨σd, M, Qd, a, t, k⟩ => ⟨σd, M, _, a, t, fun d M' v H' f r m ⟨b, e, q⟩ => k d M' v H' f r m (by rw [e]; exact q)⟩
theorem lt_tru {e : Expr} {t : DE} (h : PE X e (LE X.K B t)) (he : ∀ whole, isTrue e X.env whole = (do let v ← whole; standAt e.pos; holding [v] (truthy v))) : PT X e (LT X.K B fun σ M Q => t σ M fun x M1 => (∀ z, x = .str z → z.length ≤ sizeLine) ∧ ∃ b, truD M1 x = some b ∧ Q b M1) := by
  refine ⟨fun pins s σ H Q I ⟨σd, M, Qd, a, t, k⟩ => ?_⟩
  exact (pt_truth h he).run pins s σ H Q I ⟨σd, M, _, a, t, fun d M' v H' f r m ⟨hz, b, e, q⟩ => ⟨b, truD_rep e r m hz, k b M' H' f m q⟩⟩
theorem lt_cmp {o : CmpOp} {a b : Expr} {ta tb : DE} (hu : X.A.units + 65 < cLine) (ha : PE X a (LE X.K B ta)) (hb : PE X b (LE X.K B tb)) (hm : behindInMarks o b = false) :
    PT X (.Compare a [o] [b] pos) (LT X.K B fun σ M Q => ta σ M fun x M1 => tb σ M1 fun y M2 => rdCmp o x y M2 Q) := by
  have h := pt_cmpR (pos := pos) (opr_of (d_cmp o hu)) ha hb hm
  refine h.imp fun σ H Q ⟨σd, M, Qd, a, t, k⟩ => LE.seq a t fun d1 M1 v1 H1 f1 a1 r1 q1 => LE.seq a1 q1 fun d2 M2 v2 H2 f2 a2 r2 q2 => ?_
  refine ⟨d1, d2, M2, fun d M' => ∃ b, d = .bl b ∧ Qd b M', a1.rep f2 r1, r2, a2.m, ?_, fun d3 M3 v3 H3 f3 r3 m3 ⟨b, e, q3⟩ => ⟨b, by rw [e] at r3; exact rep_bl r3, k b M3 H3 ((f1.trans f2).trans f3) m3 q3⟩⟩
  have e : (fun b M' => ∃ b', D.bl b = .bl b' ∧ Qd b' M') = Qd := by funext b M'; exact propext ⟨fun ⟨b', e, q⟩ => by cases e; exact q, fun q => ⟨b, rfl, q⟩⟩
  show rdCmp o d1 d2 M2 (fun b M' => ∃ b', D.bl b = .bl b' ∧ Qd b' M')
  rw [e]
  exact q2
def chD (o o' : CmpOp) (ta tb tc : DE) : DT := fun σ M Q => ta σ M fun x M1 => tb σ M1 fun y M2 => rdCmp o x y M2 fun k M3 => Bif k (tc σ M3 fun z M4 => rdCmp o' y z M4 Q) (Q false M3)
theorem le_chain {o o' : CmpOp} {a b c : Expr} {ta tb tc : DE} (hu : X.A.units + 65 < cLine) (ha : PE X a (LE X.K B ta)) (hb : PE X b (LE X.K B tb)) (hc : PE X c (LE X.K B tc)) (hm : lastMarks [o, o'] [b, c] = false) :
    PE X (.Compare a [o, o'] [b, c] pos) (LE X.K B fun σ M Q => chD o o' ta tb tc σ M fun b M' => Q (.bl b) M') :=
  (pe_chain (opr_of (d_cmp o hu)) (opr_of (d_cmp o' hu)) ha hb hc hm).imp fun σ H Q ⟨σd, M, Qd, a, t, k⟩ => LE.seq a t fun d1 M1 v1 H1 f1 a1 r1 q1 => LE.seq a1 q1 fun d2 M2 v2 H2 f2 a2 r2 q2 =>
    ⟨d1, d2, M2, fun d M' => ∃ b, d = .bl b ∧ Bif b (tc σd M' fun z M4 => rdCmp o' d2 z M4 fun b M' => Qd (.bl b) M') (Qd (.bl false) M'), a1.rep f2 r1, r2, a2.m, by
      have e : (fun b M' => ∃ b', D.bl b = .bl b' ∧ Bif b' (tc σd M' fun z M4 => rdCmp o' d2 z M4 fun b M' => Qd (.bl b) M') (Qd (.bl false) M')) = fun k M3 => Bif k (tc σd M3 fun z M4 => rdCmp o' d2 z M4 fun b M' => Qd (.bl b) M') (Qd (.bl false) M3) := by
        funext b M'; exact propext ⟨fun ⟨b', e, q⟩ => by cases e; exact q, fun q => ⟨b, rfl, q⟩⟩
      show rdCmp o d1 d2 M2 _
      rw [e]
      exact q2, fun d3 M3 v3 H3 f3 r3 m3 ⟨b, e, q3⟩ => by
      subst e
      refine ⟨b, rep_bl r3, ?_⟩
      cases b with
      | false => exact k (.bl false) M3 _ H3 ((f1.trans f2).trans f3) (mk_bl false) m3 (q3.2 rfl)
      | true =>
        rw [if_pos rfl]
        exact LE.seq (a2.go f3 m3) (q3.1 rfl) fun d4 M4 v4 H4 f4 a4 r4 q4 => ⟨d2, d4, M4, Qd, (a2.go f3 m3).rep f4 (a2.rep f3 r2), r4, a4.m, q4, fun d5 M5 v5 H5 f5 r5 m5 q5 => k d5 M5 v5 H5 ((((f1.trans f2).trans f3).trans f4).trans f5) r5 m5 q5⟩⟩
theorem lt_chain {o o' : CmpOp} {a b c : Expr} {ta tb tc : DE} (hu : X.A.units + 65 < cLine) (ha : PE X a (LE X.K B ta)) (hb : PE X b (LE X.K B tb)) (hc : PE X c (LE X.K B tc)) (hm : lastMarks [o, o'] [b, c] = false) :
    PT X (.Compare a [o, o'] [b, c] pos) (LT X.K B (chD o o' ta tb tc)) := by
  have h := pt_chain (pos := pos) (opr_of (d_cmp o hu)) (opr_of (d_cmp o' hu)) ha hb hc hm
  refine ⟨fun pins s σ H Q I ⟨σd, M, Qd, a, t, k⟩ => h.run pins s σ H Q I ?_⟩
  refine LE.seq a t fun d1 M1 v1 H1 f1 a1 r1 q1 => LE.seq a1 q1 fun d2 M2 v2 H2 f2 a2 r2 q2 => ?_
  refine ⟨d1, d2, M2, fun d M' => ∃ b, d = .bl b ∧ Bif b (tc σd M' fun z M4 => rdCmp o' d2 z M4 Qd) (Qd false M'), a1.rep f2 r1, r2, a2.m, ?_, fun d3 M3 v3 H3 f3 r3 m3 ⟨b, e, q3⟩ => ?_⟩
  · have e : (fun b M' => ∃ b', D.bl b = .bl b' ∧ Bif b' (tc σd M' fun z M4 => rdCmp o' d2 z M4 Qd) (Qd false M')) = fun k M3 => Bif k (tc σd M3 fun z M4 => rdCmp o' d2 z M4 Qd) (Qd false M3) := by
      funext b M'; exact propext ⟨fun ⟨b', e, q⟩ => by cases e; exact q, fun q => ⟨b, rfl, q⟩⟩
    show rdCmp o d1 d2 M2 _
    rw [e]
    exact q2
  · subst e
    refine ⟨b, rep_bl r3, ?_⟩
    cases b with
    | false => exact ⟨false, rfl, k false M3 H3 ((f1.trans f2).trans f3) m3 (q3.2 rfl)⟩
    | true =>
      rw [if_pos rfl]
      refine LE.seq (a2.go f3 m3) (q3.1 rfl) fun d4 M4 v4 H4 f4 a4 r4 q4 => ?_
      refine ⟨d2, d4, M4, fun d M' => ∃ b, d = .bl b ∧ Qd b M', (a2.go f3 m3).rep f4 (a2.rep f3 r2), r4, a4.m, ?_, fun d5 M5 v5 H5 f5 r5 m5 ⟨b, e, q5⟩ => ⟨b, by rw [e] at r5; exact rep_bl r5, k b M5 H5 ((((f1.trans f2).trans f3).trans f4).trans f5) m5 q5⟩⟩
      have e : (fun b M' => ∃ b', D.bl b = .bl b' ∧ Qd b' M') = Qd := by funext b M'; exact propext ⟨fun ⟨b', e, q⟩ => by cases e; exact q, fun q => ⟨b, rfl, q⟩⟩
      show rdCmp o' d2 d4 M4 (fun b M' => ∃ b', D.bl b = .bl b' ∧ Qd b' M')
      rw [e]
      exact q4
/-! and, or, not -/
def anD (ta tb : DT) : DT := fun σ M Q => ta σ M fun k M1 => Bif k (tb σ M1 Q) (Q false M1)
def orD (ta tb : DT) : DT := fun σ M Q => ta σ M fun k M1 => Bif k (Q true M1) (tb σ M1 Q)
theorem LT.seq {K : PySem.W.Frag} {ta : DT} {σ : SV} {H : Hp} {σd : DSt} {M : MM} {Qd : Bool → MM → Prop} {Q : Bool → Hp → Prop} (a : At K B H σd M σ) (t : ta σd M Qd) (k : ∀ b M' H', Fr M H M' H' → At K B H' σd M' σ → Qd b M' → Q b H') : LT K B ta σ H Q :=
  ⟨σd, M, Qd, a, t, fun d M' H' f m q => k d M' H' f (a.go f m) q⟩
theorem pw_pt {op : BoolOp} {es : List Expr} (h : PT X (.BoolOp op es pos) t) : PW X (.BoolOp op es pos) t := ⟨fun w pins s σ H Q I q => h.run pins s σ H Q I q⟩
theorem pt_pw {op : BoolOp} {es : List Expr} (h : PW X (.BoolOp op es pos) t) : PT X (.BoolOp op es pos) t := ⟨fun pins s σ H Q I q => h.run _ pins s σ H Q I q⟩
theorem lt_and {a b : Expr} {rest : List Expr} {ta tb : DT} (ha : PT X a (LT X.K B ta)) (hb : PW X (.BoolOp .And (b :: rest) pos) (LT X.K B tb)) : PW X (.BoolOp .And (a :: b :: rest) pos) (LT X.K B (anD ta tb)) :=
  (pw_and ha hb).imp fun σ H Q ⟨σd, M, Qd, a, t, k⟩ => LT.seq a t fun b M1 H1 f1 a1 q1 => by
    cases b with
    | true => rw [if_pos rfl]; exact LT.seq a1 (q1.1 rfl) fun b M2 H2 f2 a2 q2 => k b M2 H2 (f1.trans f2) a2.m q2
    | false => rw [if_neg Bool.false_ne_true]; exact k false M1 H1 f1 a1.m (q1.2 rfl)
theorem lt_or {a b : Expr} {rest : List Expr} {ta tb : DT} (ha : PT X a (LT X.K B ta)) (hb : PW X (.BoolOp .Or (b :: rest) pos) (LT X.K B tb)) : PW X (.BoolOp .Or (a :: b :: rest) pos) (LT X.K B (orD ta tb)) :=
  (pw_or ha hb).imp fun σ H Q ⟨σd, M, Qd, a, t, k⟩ => LT.seq a t fun b M1 H1 f1 a1 q1 => by
    cases b with
    | false => rw [if_neg Bool.false_ne_true]; exact LT.seq a1 (q1.2 rfl) fun b M2 H2 f2 a2 q2 => k b M2 H2 (f1.trans f2) a2.m q2
    | true => rw [if_pos rfl]; exact k true M1 H1 f1 a1.m (q1.1 rfl)
theorem lt_not {a : Expr} {ta : DT} (ha : PT X a (LT X.K B ta)) : PT X (.UnaryOp .Not a pos) (LT X.K B fun σ M Q => ta σ M fun k M1 => Q (!k) M1) :=
  (pt_not ha).imp fun σ H Q ⟨σd, M, Qd, a, t, k⟩ => LT.seq a t fun b M1 H1 f1 a1 q1 => k (!b) M1 H1 f1 a1.m q1
/-- as values -/
abbrev VT (t : DT) : DE := fun σ M Q => t σ M fun b M' => Q (.bl b) M'
theorem lv_seq {K : PySem.W.Frag} {ta : DT} {σ : SV} {H : Hp} {σd : DSt} {M : MM} {Qd : Bool → MM → Prop} {Q : VK} (a : At K B H σd M σ) (t : ta σd M Qd) (k : ∀ b M' H', Fr M H M' H' → At K B H' σd M' σ → Qd b M' → Q (.bl b) H') : LE K B (VT ta) σ H Q := by
  refine ⟨σd, M, fun d M' => ∃ b, d = .bl b ∧ Qd b M', a, ?_, fun d M' v H' f r m ⟨b, e, q⟩ => ?_⟩
  · have e : (fun b M' => ∃ b', D.bl b = .bl b' ∧ Qd b' M') = Qd := by funext b M'; exact propext ⟨fun ⟨b', e, q⟩ => by cases e; exact q, fun q => ⟨b, rfl, q⟩⟩
    show ta σd M (fun b M' => ∃ b', D.bl b = .bl b' ∧ Qd b' M')
    rw [e]
    exact t
  · subst e
    rw [rep_bl r]
    exact k b M' H' f (a.go f m) q
theorem lv_one {op} {a : Expr} {t : TE} (h : PE X a t) : PE X (.BoolOp op [a] pos) t := pe_one h
theorem lv_and {a b : Expr} {rest : List Expr} {ta tb : DT} (ha : PE X a (LE X.K B (VT ta))) (hb : PE X (.BoolOp .And (b :: rest) pos) (LE X.K B (VT tb))) : PE X (.BoolOp .And (a :: b :: rest) pos) (LE X.K B (VT (anD ta tb))) :=
  (pe_and ha hb).imp fun σ H Q ⟨σd, M, Qd, a, t, k⟩ => lv_seq a t fun b M1 H1 f1 a1 q1 => by
    refine ⟨b, rfl, ?_⟩
    cases b with
    | true => rw [if_pos rfl]; exact LE.seq (ta := VT tb) a1 (q1.1 rfl) fun d M2 v H2 f2 a2 r2 q2 => k d M2 v H2 (f1.trans f2) r2 a2.m q2
    | false => rw [if_neg Bool.false_ne_true]; exact k _ M1 _ H1 f1 (mk_bl false) a1.m (q1.2 rfl)
theorem lv_or {a b : Expr} {rest : List Expr} {ta tb : DT} (ha : PE X a (LE X.K B (VT ta))) (hb : PE X (.BoolOp .Or (b :: rest) pos) (LE X.K B (VT tb))) : PE X (.BoolOp .Or (a :: b :: rest) pos) (LE X.K B (VT (orD ta tb))) :=
  (pe_or ha hb).imp fun σ H Q ⟨σd, M, Qd, a, t, k⟩ => lv_seq a t fun b M1 H1 f1 a1 q1 => by
    refine ⟨b, rfl, ?_⟩
    cases b with
    | false => rw [if_neg Bool.false_ne_true]; exact LE.seq (ta := VT tb) a1 (q1.2 rfl) fun d M2 v H2 f2 a2 r2 q2 => k d M2 v H2 (f1.trans f2) r2 a2.m q2
    | true => rw [if_pos rfl]; exact k _ M1 _ H1 f1 (mk_bl true) a1.m (q1.1 rfl)
theorem lv_not {a : Expr} {ta : DT} (ha : PE X a (LE X.K B (VT ta))) : PE X (.UnaryOp .Not a pos) (LE X.K B (VT fun σ M Q => ta σ M fun k M1 => Q (!k) M1)) :=
  (pe_not ha).imp fun σ H Q ⟨σd, M, Qd, a, t, k⟩ => lv_seq a t fun b M1 H1 f1 a1 q1 => ⟨b, rfl, k _ M1 _ H1 f1 (mk_bl _) a1.m q1⟩
theorem le_ifx {c a b : Expr} {tc : DT} {ta tb : DE} (hc : PT X c (LT X.K B tc)) (ha : PE X a (LE X.K B ta)) (hb : PE X b (LE X.K B tb)) : PE X (.IfExp c a b pos) (LE X.K B fun σ M Q => tc σ M fun k M1 => Bif k (ta σ M1 Q) (tb σ M1 Q)) :=
  (pe_ifExp hc ha hb).imp fun σ H Q ⟨σd, M, Qd, a, t, k⟩ => LT.seq a t fun b M1 H1 f1 a1 q1 => by
    cases b with
    | true => rw [if_pos rfl]; exact LE.seq a1 (q1.1 rfl) fun d M2 v H2 f2 a2 r2 q2 => k d M2 v H2 (f1.trans f2) r2 a2.m q2
    | false => rw [if_neg Bool.false_ne_true]; exact LE.seq a1 (q1.2 rfl) fun d M2 v H2 f2 a2 r2 q2 => k d M2 v H2 (f1.trans f2) r2 a2.m q2
theorem le_neg {a : Expr} {ta : DE} (ha : PE X a (LE X.K B ta)) : PE X (.UnaryOp .USub a pos) (LE X.K B fun σ M Q => ta σ M fun x M1 => ∃ i, x = .int i ∧ Q (.int (-i)) M1) :=
  (pe_un un_neg ha).imp fun σ H Q ⟨σd, M, Qd, a, t, k⟩ => LE.seq a t fun d M1 v H1 f1 a1 r1 ⟨i, e, q⟩ => ⟨i, by rw [e] at r1; exact rep_int r1, k _ M1 _ H1 f1 (mk_int _) a1.m q⟩
/-! ### arguments, displays -/
theorem la_nil : PA X [] (LA X.K B fun _ M Q => Q [] M) := pa_nil.imp fun σ H Q ⟨σd, M, Qd, a, t, k⟩ => k [] M [] H .refl .nil a.m t
theorem la_cons {e : Expr} {es : List Expr} {te : DE} {t : DA} (ha : PE X e (LE X.K B te)) (hr : PA X es (LA X.K B t)) (hs : starEach (e :: es) X.env = (false, eval e X.env) :: starEach es X.env) : PA X (e :: es) (LA X.K B fun σ M Q => te σ M fun x M1 => t σ M1 fun xs M2 => Q (x :: xs) M2) :=
  (pa_cons ha hr hs).imp fun σ H Q ⟨σd, M, Qd, a, t, k⟩ => LE.seq a t fun d1 M1 v1 H1 f1 a1 r1 q1 =>
    ⟨σd, M1, _, a1, q1, fun ds M2 vs H2 f2 r2 m2 q2 => k (d1 :: ds) M2 (v1 :: vs) H2 (f1.trans f2) (.cons (a1.rep f2 r1) r2) m2 q2⟩
theorem la_run {es : List Expr} {t : DA} (h : PA X es (LA X.K B t)) {pins : List (Addr × Obj)} {s : Shared} {σ : SV} {H : Hp} {σd : DSt} {M : MM} {Qd : List D → MM → Prop} (I : Inv X pins σ H s) (a : At X.K B H σd M σ) (ht : t σd M Qd) (pos : Pos) :
    wpAny (model X.prog X.w) X.A (spliced (backTo pos (starEach es X.env))) (fun us s' => ∃ ds M' vs H', Inv X pins σ H' s' ∧ Vals vs us ∧ Fr M H M' H' ∧ RepL X.K H' ds vs ∧ RepM X.K M' H' ∧ Qd ds M') X.xe s :=
  thn (h.run pos pins s σ H (fun vs H' => ∃ ds M', Fr M H M' H' ∧ RepL X.K H' ds vs ∧ RepM X.K M' H' ∧ Qd ds M') I ⟨σd, M, Qd, a, ht, fun ds M' vs H' f r m q => ⟨ds, M', f, r, m, q⟩⟩) fun us s' ⟨vs, H', I', r, ds, M', f, rr, m, q⟩ => ⟨ds, M', vs, H', I', r, f, rr, m, q⟩
theorem EPD.pre {pins : List (Addr × Obj)} {σ : SV} {M M1 : MM} {H H1 : Hp} {Qd : DV} {u : Value} {s' : Shared} (f1 : Fr M H M1 H1) (h : EPD X pins σ M1 H1 Qd u s') : EPD X pins σ M H Qd u s' := by
  obtain ⟨d, M', v, H', i, r, f, rr, mm, qq⟩ := h
  exact ⟨d, M', v, H', i, r, f1.trans f, rr, mm, qq⟩
theorem le_tup {es : List Expr} {t : DA} {x1} (h : PA X es (LA X.K B t)) : PE X (.Tuple es x1 pos) (LE X.K B fun σ M Q => t σ M fun ds M1 => ds.length ≤ sizeLine ∧ Q (.tup ds) M1) := by
  refine pe_of fun pins s σ H σd M Qd I a ht => ?_
  refine wpAny_Tuple_spliced (thn (la_run h I a ht pos) fun us s1 ⟨ds, M1, vs, H1, I1, rv, f1, rl, m1, hz, q⟩ => ⟨by rw [← rv.length, ← rl.length]; exact hz, ?_⟩)
  exact EPD.pre f1 (fin_newT (h' := s1.heap) I1 m1 rl rv (by rw [← rl.length]; exact hz) q)
theorem le_lst {fz : Bool} {es : List Expr} {t : DA} (h : PA X es (LA X.K B t)) : PE X (.List es pos) (LE X.K B fun σ M Q => t σ M fun ds M1 => ds.length ≤ sizeLine ∧ newL fz ds M1 Q) := by
  refine pe_of fun pins s σ H σd M Qd I a ht => ?_
  refine wpAny_List_spliced (thn (la_run h I a ht pos) fun us s1 ⟨ds, M1, vs, H1, I1, rv, f1, rl, m1, hz, q⟩ => ⟨by rw [← rv.length, ← rl.length]; exact hz, ?_⟩)
  exact EPD.pre f1 (fin_newL (I1.lnew (t' := s1.toks) rv (by rw [← rl.length]; exact hz)) I1.fresh m1 rl q)
/-- a new dict has been laid at p -/
theorem fin_newD {pins : List (Addr × Obj)} {s' : Shared} {σ : SV} {H : Hp} {M : MM} {Qd : DV} {fz : Bool} {ks : List Key} {ds : List D} {vs : List V} {p : Addr} (I : Inv X pins σ (upd H p (.dK (ks.zip vs))) s') (hp : H p = none) (m : RepM X.K M H) (hl : ks.length = vs.length) (r : RepL X.K H ds vs) (q : newD fz ks ds M Qd) : EPD X pins σ M H Qd (.ref p) s' := by
  have k : KeepF H (upd H p (.dK (ks.zip vs))) := .new hp
  cases fz with
  | false => exact ⟨.ref p, up M p (.dct ks ds), .ref p, _, I, rfl, .new hp, mk_ref p, m.new hp ⟨vs, upd_same, hl, r.keep k⟩, q p (m.free hp)⟩
  | true =>
    obtain ⟨o, I'⟩ := freeze I upd_same (fun _ _ _ z => nomatch z) trivial
    rw [upd_upd] at I'
    exact ⟨.dct ks ds, M, .ref p, _, I', rfl, .hid hp, mk_dct upd_same hl (r.keep (.new hp)), m.hid hp, q⟩
theorem le_dct0 {fz : Bool} : PE X (.Dict [] [] pos) (LE X.K B fun σ M Q => newD fz [] [] M Q) := by
  refine pe_of fun pins s σ H σd M Qd I a ht => ?_
  refine thn (pe_dnewK.run pins s σ H (fun v H' => ∃ p, v = .ref p ∧ H p = none ∧ H' = upd H p (.dK [])) I fun p hp => ⟨p, rfl, hp, rfl⟩) fun u s' ⟨v, H', I', rv, p, ev, hp, eH⟩ => ?_
  subst ev eH
  cases rv
  exact fin_newD (ks := []) (vs := []) I' hp a.m rfl .nil ht
/-! ### subscripts, slices, calls of built-ins -/
theorem le_ix {a b : Expr} {ta tb : DE} (hu : X.A.units + 65 < cLine) (ha : PE X a (LE X.K B ta)) (hb : PE X b (LE X.K B tb)) (hs : PlainIx b) : PE X (.Subscript a b pos) (LE X.K B fun σ M Q => ta σ M fun x M1 => tb σ M1 fun y M2 => rdIx x y M2 Q) :=
  (pe_ix (ixr_of (d_ix hu)) ha hb hs).imp fun σ H Q ⟨σd, M, Qd, a, t, k⟩ => LE.seq a t fun d1 M1 v1 H1 f1 a1 r1 q1 => LE.seq a1 q1 fun d2 M2 v2 H2 f2 a2 r2 q2 =>
    ⟨d1, d2, M2, Qd, a1.rep f2 r1, r2, a2.m, q2, fun d3 M3 v3 H3 f3 r3 m3 q3 => k d3 M3 v3 H3 ((f1.trans f2).trans f3) r3 m3 q3⟩
abbrev DO1 := DSt → MM → (Option Int → MM → Prop) → Prop
def LO (K : PySem.W.Frag) (B : Bs) (t : DO1) : TO := fun σ H Q => ∃ σd M Qd, At K B H σd M σ ∧ t σd M Qd ∧ ∀ o M' H', Fr M H M' H' → RepM K M' H' → Qd o M' → Q o H'
theorem lo_no : PO X none (LO X.K B fun _ M Q => Q none M) := ⟨fun pins s σ H Q I ⟨σd, M, Qd, a, t, k⟩ => po_none.run pins s σ H Q I (k none M H .refl a.m t)⟩
theorem lo_yes {e : Expr} {te : DE} (h : PE X e (LE X.K B te)) : PO X (some e) (LO X.K B fun σ M Q => te σ M fun x M1 => ∃ i, x = .int i ∧ Q (some i) M1) :=
  ⟨fun pins s σ H Q I ⟨σd, M, Qd, a, t, k⟩ => (po_some h).run pins s σ H Q I (LE.seq a t fun d M1 v H1 f1 a1 r1 ⟨i, e, q⟩ => ⟨i, by rw [e] at r1; exact rep_int r1, k (some i) M1 H1 f1 a1.m q⟩)⟩
theorem LO.seq {K : PySem.W.Frag} {ta : DO1} {σ : SV} {H : Hp} {σd : DSt} {M : MM} {Qd : Option Int → MM → Prop} {Q : Option Int → Hp → Prop} (a : At K B H σd M σ) (t : ta σd M Qd) (k : ∀ o M' H', Fr M H M' H' → At K B H' σd M' σ → Qd o M' → Q o H') : LO K B ta σ H Q :=
  ⟨σd, M, Qd, a, t, fun o M' H' f m q => k o M' H' f (a.go f m) q⟩
theorem le_slc {fz : Bool} {e : Expr} {lo hi : Option Expr} {te : DE} {tl th : DO1} {p2 : Pos} (he : PE X e (LE X.K B te)) (hl : PO X lo (LO X.K B tl)) (hh : PO X hi (LO X.K B th)) :
    PE X (.Subscript e (.Slice lo hi none p2) pos) (LE X.K B fun σ M Q => te σ M fun x M1 => tl σ M1 fun i M2 => th σ M2 fun j M3 => rdSl fz x i j M3 Q) :=
  (pe_slice (slr_of (d_sl (fz := fz))) he hl hh).imp fun σ H Q ⟨σd, M, Qd, a, t, k⟩ => LE.seq a t fun d1 M1 v1 H1 f1 a1 r1 q1 => LO.seq a1 q1 fun i M2 H2 f2 a2 q2 => LO.seq a2 q2 fun j M3 H3 f3 a3 q3 =>
    ⟨d1, M3, Qd, a2.rep f3 (a1.rep f2 r1), a3.m, q3, fun d4 M4 v4 H4 f4 r4 m4 q4 => k d4 M4 v4 H4 (((f1.trans f2).trans f3).trans f4) r4 m4 q4⟩
theorem le_callB {id : String} {x : Str} {es : List Expr} {e : Expr} {t : DA} {rd : RDF} {p : Pos} (hc : CallD X (.builtin id) rd) (hg : Gl X x) (hm : X.mg x = none) (hv : bootBuiltins x = some (.builtin id)) (ha : PA X (e :: es) (LA X.K B t)) (hn : x ≠ "__name__") (hdb : (x == ("__debug__" : Str)) = false)
    (he : starEach (e :: es) X.env = (false, eval e X.env) :: starEach es X.env) (hpl : (backTo pos (starEach es X.env)).any (·.1) = false) : PE X (.Call (.Name x p) (e :: es) [] pos) (LE X.K B fun σ M Q => t σ M fun ds M1 => rd ds M1 Q) :=
  (pe_callB (cr_of hc) hg hm hv ha hn hdb he hpl).imp fun σ H Q ⟨σd, M, Qd, a, t, k⟩ => ⟨σd, M, _, a, t, fun ds M1 vs H1 f1 r1 m1 q1 => ⟨ds, M1, Qd, r1, m1, q1, fun d M2 v H2 f2 r2 m2 q2 => k d M2 v H2 (f1.trans f2) r2 m2 q2⟩⟩
theorem le_callTy {T : String} {x : Str} {es : List Expr} {e : Expr} {t : DA} {rd : RDF} {p : Pos} (hc : CallD X (.type T) rd) (hg : Gl X x) (hm : X.mg x = none) (hv : bootBuiltins x = some (.type T)) (ha : PA X (e :: es) (LA X.K B t)) (hn : x ≠ "__name__") (hdb : (x == ("__debug__" : Str)) = false)
    (he : starEach (e :: es) X.env = (false, eval e X.env) :: starEach es X.env) (hpl : (backTo pos (starEach es X.env)).any (·.1) = false) : PE X (.Call (.Name x p) (e :: es) [] pos) (LE X.K B fun σ M Q => t σ M fun ds M1 => rd ds M1 Q) :=
  (pe_callTy (cr_of hc) hg hm hv ha hn hdb he hpl).imp fun σ H Q ⟨σd, M, Qd, a, t, k⟩ => ⟨σd, M, _, a, t, fun ds M1 vs H1 f1 r1 m1 q1 => ⟨ds, M1, Qd, r1, m1, q1, fun d M2 v H2 f2 r2 m2 q2 => k d M2 v H2 (f1.trans f2) r2 m2 q2⟩⟩
def LRm (K : PySem.W.Frag) (rd : RDM) : V → List V → Hp → VK → Prop := fun x xs H Q => ∃ dx ds M Qd, Rep K H dx x ∧ RepL K H ds xs ∧ RepM K M H ∧ rd dx ds M Qd ∧ ∀ d M' v H', Fr M H M' H' → Rep K H' d v → RepM K M' H' → Qd d M' → Q v H'
theorem mr_of {id : String} {rd : RDM} (h : MtD X id rd) : MtR X id (LRm X.K rd) := by
  intro pins s σ H x xs v us Q I rx rxs ⟨dx, ds, M, Qd, h1, h2, m, r, q⟩
  exact thn (h pins s σ H x xs v us dx ds M Qd I rx rxs h1 h2 m r) fun u s' e => e.ep q
theorem le_bm {T id : String} {name : Str} {o e : Expr} {es : List Expr} {to : DE} {t : DA} {rd : RDM} {rcv : D → MM → Prop} {apos : Pos} (pa : PlainAttrs T) (slot : Slot T name id) (hty : typeOf (.builtin id) = pure (.type "method_descriptor")) (hm : MtD X id rd)
    (hr : ∀ d M H v, rcv d M → Rep X.K H d v → RepM X.K M H → tyV X.K T v H) (ho : PE X o (LE X.K B to)) (ha : PA X (e :: es) (LA X.K B t)) (hbase : attributeBase o name X.env (eval o X.env) = eval o X.env)
    (hfew : ((backTo pos (starEach (e :: es) X.env)).all (fun x => !x.1) && (backToKw pos (keywordEach [] X.env)).all (fun x => x.1.isSome) && decide ((e :: es).length + ([] : List Keyword).length + (if ([] : List Keyword).isEmpty then 0 else 1) < 30)) = true)
    (hline : (apos.endLine == pos.line) = true) (hs : starEach (e :: es) X.env = (false, eval e X.env) :: starEach es X.env) (hplain : (backTo pos (starEach es X.env)).any (·.1) = false) :
    PE X (.Call (.Attribute o name apos) (e :: es) [] pos) (LE X.K B fun σ M Q => to σ M fun x M1 => rcv x M1 ∧ t σ M1 fun ds M2 => rd x ds M2 Q) :=
  (pe_bm pa slot hty (mr_of hm) ho ha hbase hfew hline hs hplain).imp fun σ H Q ⟨σd, M, Qd, a, t, k⟩ => LE.seq a t fun d1 M1 v1 H1 f1 a1 r1 ⟨rc, q1⟩ => ⟨hr _ _ _ _ rc r1 a1.m,
    ⟨σd, M1, _, a1, q1, fun ds M2 vs H2 f2 r2 m2 q2 => ⟨d1, ds, M2, Qd, a1.rep f2 r1, r2, m2, q2, fun d M3 v H3 f3 r3 m3 q3 => k d M3 v H3 ((f1.trans f2).trans f3) r3 m3 q3⟩⟩⟩
theorem le_bm0 {T id : String} {name : Str} {o : Expr} {to : DE} {rd : RDM} {rcv : D → MM → Prop} {apos : Pos} (pa : PlainAttrs T) (slot : Slot T name id) (hty : typeOf (.builtin id) = pure (.type "method_descriptor")) (hm : MtD X id rd)
    (hr : ∀ d M H v, rcv d M → Rep X.K H d v → RepM X.K M H → tyV X.K T v H) (ho : PE X o (LE X.K B to)) (hbase : attributeBase o name X.env (eval o X.env) = eval o X.env) (hline : (apos.endLine == pos.line) = true) :
    PE X (.Call (.Attribute o name apos) [] [] pos) (LE X.K B fun σ M Q => to σ M fun x M1 => rcv x M1 ∧ rd x [] M1 Q) :=
  (pe_bm0 pa slot hty (mr_of hm) ho hbase hline).imp fun σ H Q ⟨σd, M, Qd, a, t, k⟩ => LE.seq a t fun d1 M1 v1 H1 f1 a1 r1 ⟨rc, q1⟩ => ⟨hr _ _ _ _ rc r1 a1.m,
    ⟨d1, [], M1, Qd, r1, .nil, a1.m, q1, fun d M3 v H3 f3 r3 m3 q3 => k d M3 v H3 (f1.trans f3) r3 m3 q3⟩⟩
/-! ### fields -/
theorem lookup_zip {f : Str} : ∀ {ks : List Str} {ds : List D} {vs : List V} {H : Hp}, ks.length = vs.length → RepL X.K H ds vs → (match getFD ks ds f with
    | some d => ∃ v, (ks.zip vs).lookup f = some v ∧ Rep X.K H d v
    | none => (ks.zip vs).lookup f = none)
  | [], ds, vs, H, _, _ => by simp [getFD]
  | k :: ks, ds, [], H, hl, _ => by simp at hl
  | k :: ks, [], v :: vs, H, hl, r => by have := r.nil_inv; cases this
  | k :: ks, d :: ds, v :: vs, H, hl, r => by
    obtain ⟨v', vs', e, r1, r2⟩ := r.cons_inv
    cases e
    have ih := lookup_zip (f := f) (ks := ks) (by simpa using hl) r2
    by_cases hk : f = k
    · subst hk
      simp only [getFD, List.zip_cons_cons, List.lookup_cons, beq_self_eq_true]
      exact ⟨v, rfl, r1⟩
    · have hb : (f == k) = false := beq_eq_false_iff_ne.mpr hk
      simp only [getFD, List.zip_cons_cons, List.lookup_cons, hb]
      exact ih
theorem le_fld {e : Expr} {f : Str} {te : DE} {fl : Str → Str → Bool} (hf : ∀ C, fl C f = true → Cls X.K (He.ga X.K C) ∧ NoAttr X.K (He.ga X.K C) f) (he : PE X e (LE X.K B te)) (hb : attributeBase e f X.env (eval e X.env) = eval e X.env) :
    PE X (.Attribute e f pos) (LE X.K B fun σ M Q => te σ M fun x M1 => ∃ p C ks vs d, x = .ref p ∧ M1 p = some (.ins C ks vs) ∧ fl C f = true ∧ getFD ks vs f = some d ∧ Q d M1) :=
  (pe_fld he hb).imp fun σ H Q ⟨σd, M, Qd, a, t, k⟩ => LE.seq a t fun d1 M1 v1 H1 f1 a1 r1 ⟨p, C, ks, ds, d, e1, e2, e3, e4, q⟩ => by
    subst e1
    obtain ⟨dx, vs, h1, hl, rl⟩ := a1.m _ _ e2
    have z := lookup_zip (X := X) (f := f) hl rl
    rw [e4] at z
    obtain ⟨v, hv, rv⟩ := z
    obtain ⟨c, n⟩ := hf C e3
    exact ⟨p, _, dx, _, v, rep_ref r1, h1, c, n, hv, k d M1 v H1 f1 rv a1.m q⟩
/-- ghost: a list is read only from here on -/
theorem le_frz {e : Expr} {te : DE} (he : PE X e (LE X.K B te)) : PE X e (LE X.K B fun σ M Q => te σ M fun x M1 => ∃ p ds, x = .ref p ∧ M1 p = some (.lst ds) ∧ Q (.lst ds) (del M1 p)) := by
  refine pe_of fun pins s σ H σd M Qd I a ht => ?_
  refine thn (RX.PE.at he I a ht) fun u s1 ⟨d, M1, v, H1, I1, rv, f1, rd, m1, p, ds, e, eM, q⟩ => ?_
  subst e
  cases (rep_ref rd)
  obtain ⟨vs, h1, rl⟩ := m1 _ _ eM
  obtain ⟨o, I2⟩ := freeze I1 h1 (fun _ _ _ z => nomatch z) trivial
  have k : KeepF H1 (upd H1 p (.frz o (.lst vs))) := .mut (m1.mut eM)
  exact ⟨.lst ds, del M1 p, .ref p, _, I2, rv, f1.trans (.cut eM), mk_lst (.inl ⟨o, upd_same⟩) (rl.keep k), m1.cut eM, q⟩
theorem le_frzd {e : Expr} {te : DE} (he : PE X e (LE X.K B te)) : PE X e (LE X.K B fun σ M Q => te σ M fun x M1 => ∃ p ks ds, x = .ref p ∧ M1 p = some (.dct ks ds) ∧ Q (.dct ks ds) (del M1 p)) := by
  refine pe_of fun pins s σ H σd M Qd I a ht => ?_
  refine thn (RX.PE.at he I a ht) fun u s1 ⟨d, M1, v, H1, I1, rv, f1, rd, m1, p, ks, ds, e, eM, q⟩ => ?_
  subst e
  cases (rep_ref rd)
  obtain ⟨vs, h1, hl, rl⟩ := m1 _ _ eM
  obtain ⟨o, I2⟩ := freeze I1 h1 (fun _ _ _ z => nomatch z) trivial
  have k : KeepF H1 (upd H1 p (.frz o (.dK (ks.zip vs)))) := .mut (m1.mut eM)
  exact ⟨.dct ks ds, del M1 p, .ref p, _, I2, rv, f1.trans (.cut eM), mk_dct upd_same hl (rl.keep k), m1.cut eM, q⟩
end
end RX
set_option Elab.async false
set_option linter.all false
set_option maxRecDepth 100000
set_option maxHeartbeats 4000000
/-! RX7: calls of defs, methods, classes; walks; comprehensions; statements. -/
namespace RX
open PySem PySem.Spec PyProof.Rows L2

theorem evalArgs_gen {M : Model} {A : Around} {E : Value → Shared → Prop} {s : Shared} {f : Value} {trees : List (Bool × Sem Value)} {Q : Args → Shared → Prop} (hp : trees.any (·.1) = false)
    (h : wpAny M A (spliced trees) (fun vs s' => Q ⟨vs, []⟩ s') E s) : wpAny M A (evalArgs f true trees []) Q E s := by
  match trees, hp with
  | [], _ =>
    unfold evalArgs
    show wpAny M A (spliced [] >>= _) Q E s
    refine wpAny_bind (wpAny_mono h (fun vs s' h' => ?_) fun _ _ x => x)
    refine wpAny_bind (wpAny_pure ?_)
    refine wpAny_holding ?_
    exact wpAny_bind (wpAny_pure (wpAny_bind (wpAny_pure (wpAny_pure h'))))
  | (false, x) :: rest, _ => exact Calls.evalArgs_plain h
  | (true, x) :: rest, hp => cases hp
theorem evalArgs_kwg {M : Model} {A : Around} {E : Value → Shared → Prop} {s : Shared} {f : Value} {trees : List (Bool × Sem Value)} {keywords : List (Option Str × Sem Value)} {Q : Args → Shared → Prop} (hp : trees.any (·.1) = false) (hall : keywords.all (·.1.isSome) = true)
    (h : wpAny M A (spliced trees) (fun vs s₁ => wpAny M A (evalAll (keywords.map (·.2))) (fun ks s₂ => Q ⟨vs, (keywords.filterMap (·.1)).zip ks⟩ s₂) E s₁) E s) : wpAny M A (evalArgs f true trees keywords) Q E s := by
  match trees, hp with
  | [], _ =>
    unfold evalArgs
    show wpAny M A (spliced [] >>= _) Q E s
    refine wpAny_bind (wpAny_mono h (fun vs s₁ h₁ => ?_) fun _ _ x => x)
    refine wpAny_bind (wpAny_pure ?_)
    refine wpAny_holding ?_
    simp only [hall, if_true]
    refine wpAny_bind (wpAny_mono h₁ (fun ks s₂ h₂ => ?_) fun _ _ x => x)
    exact wpAny_bind (wpAny_pure (wpAny_pure h₂))
  | (false, x) :: rest, _ => exact evalArgs_kw hall h
  | (true, x) :: rest, hp => cases hp
theorem any_back {pos : Pos} : ∀ {l : List (Bool × Sem Value)}, l.any (·.1) = false → (backTo pos l).any (·.1) = false
  | [], _ => rfl
  | (b, x) :: l, h => by
    have h1 : b = false ∧ l.any (·.1) = false := by simpa using h
    show (b || (backTo pos l).any (·.1)) = false
    rw [any_back h1.2, h1.1]; rfl
section
variable {X : Cx} {B : Bs} {pos : Pos}
/-! ### calls of defs -/
theorem bind_all {K : PySem.W.Frag} {fd : FuncData} {ps : List Str} {s : Shared} {us : List Value} (hb : Binds K fd ps []) (hk : K.In s.heap) (hl : us.length = ps.length) : BindsTo s fd ⟨us, []⟩ (ps.zip us) := by
  have := hb s us hk (by rw [List.append_nil]; exact hl)
  rw [List.append_nil] at this
  exact this
/-- what a def lets out is taken here -/
theorem kx_at {H1 : Hp} {σd : DSt} {M1 : MM} {σ : SV} {E : ED} (a : At X.K B H1 σd M1 σ) : ∀ cls d H', KXd X.K M1 H1 (fun C ks vs M2 => E C ks vs σd M2) cls d H' → WXE X.K B E cls d σ H' :=
  fun cls d H' ⟨C, f, x, dx, v, M', e1, e2, h1, h2, h3, h4, q⟩ => ⟨C, f, x, dx, v, σd, M', e1, e2, h1, h2, a.go h4 h3, q⟩
theorem le_call {k : Nat} {fa : Addr} {fd : FuncData} {ps : List Str} {g : CallT} {x : Str} {es : List Expr} {t : DA} {p : Pos} (F : FnG X.prog X.w X.K X.mg X.base k fa fd ps g) (hr : Room k X.A) (hgd : X.A.guards = some []) (hg : Gl X x) (hm : X.mg x = some (.ref fa)) (hk : PySem.W.keepIn X.K (.ref fa) = true)
    (hb : Binds X.K fd ps []) (ha : PA X es (LA X.K B t)) (hdb : (x == ("__debug__" : Str)) = false) (hst : (starEach es X.env).any (·.1) = false) {E : ED} (tk : Takes X (WXE X.K B E)) :
    PE X (.Call (.Name x p) es [] pos) (LE X.K B fun σ M Q => t σ M fun ds M1 => g ds M1 Q fun C ks vs M2 => E C ks vs σ M2) := by
  refine pe_of fun pins s σ H σd M Qd I a ht => ?_
  refine wpAny_Call_Name_kw (ld_glob I hg hm ?_ hdb)
  refine PySem.W.callWith_of (by rw [any_back hst]; rfl) (PySem.W.keeps_K hk) (evalArgs_gen (any_back hst) (thn (la_run ha I a ht pos) fun us s1 ⟨ds, M1, vs, H1, I1, rv, f1, rl, m1, q⟩ => ⟨I1.kIn, ?_⟩))
  exact thn (run_g F hr hgd I1 (bind_all hb I1.kIn (by rw [List.nil_append, ← rv.length, ← rl.length]; exact F.len _ _ _ _ q)) rv rl m1 tk (kx_at (a.go f1 m1)) q) fun u s' h => EPD.pre f1 h
/-- keywords -/
def LK (K : PySem.W.Frag) (B : Bs) (t : DA) : TA := LA K B t
theorem lk_nil : PK X [] (LA X.K B fun _ M Q => Q [] M) := ⟨fun pos pins s σ H Q I ⟨σd, M, Qd, a, t, k⟩ => pk_nil.run pos pins s σ H Q I (k [] M [] H .refl .nil a.m t)⟩
theorem lk_cons {e : Expr} {nm : Option Str} {kpos : Pos} {kws : List Keyword} {te : DE} {t : DA} (ha : PE X e (LE X.K B te)) (hr : PK X kws (LA X.K B t)) : PK X (⟨nm, e, kpos⟩ :: kws) (LA X.K B fun σ M Q => te σ M fun x M1 => t σ M1 fun xs M2 => Q (x :: xs) M2) :=
  ⟨fun pos pins s σ H Q I ⟨σd, M, Qd, a, ht, k⟩ => (pk_cons ha hr).run pos pins s σ H Q I (LE.seq a ht fun d1 M1 v1 H1 f1 a1 r1 q1 =>
    ⟨σd, M1, _, a1, q1, fun ds M2 vs H2 f2 r2 m2 q2 => k (d1 :: ds) M2 (v1 :: vs) H2 (f1.trans f2) (.cons (a1.rep f2 r1) r2) m2 q2⟩)⟩
theorem lk_run {kws : List Keyword} {t : DA} (h : PK X kws (LA X.K B t)) {pins : List (Addr × Obj)} {s : Shared} {σ : SV} {H : Hp} {σd : DSt} {M : MM} {Qd : List D → MM → Prop} (I : Inv X pins σ H s) (a : At X.K B H σd M σ) (ht : t σd M Qd) (pos : Pos) :
    wpAny (model X.prog X.w) X.A (evalAll ((backToKw pos (keywordEach kws X.env)).map (·.2))) (fun us s' => ∃ ds M' vs H', Inv X pins σ H' s' ∧ Vals vs us ∧ Fr M H M' H' ∧ RepL X.K H' ds vs ∧ RepM X.K M' H' ∧ Qd ds M') X.xe s :=
  thn (h.run pos pins s σ H (fun vs H' => ∃ ds M', Fr M H M' H' ∧ RepL X.K H' ds vs ∧ RepM X.K M' H' ∧ Qd ds M') I ⟨σd, M, Qd, a, ht, fun ds M' vs H' f r m q => ⟨ds, M', f, r, m, q⟩⟩) fun us s' ⟨vs, H', I', r, ds, M', f, rr, m, q⟩ => ⟨ds, M', vs, H', I', r, f, rr, m, q⟩
/-- what a call with n positional values and keywords ks binds -/
def KwB (K : PySem.W.Frag) (fd : FuncData) (ps ks : List Str) : Prop := ∀ (s : Shared) (us ws : List Value), K.In s.heap → us.length + ws.length = ps.length → ws.length = ks.length → BindsTo s fd ⟨us, ks.zip ws⟩ (ps.zip (kwArr ps us ks ws))
theorem lookup_zipV : ∀ {ks : List Str} {vs : List V} {us : List Value} (p : Str), Vals vs us → (match (ks.zip vs).lookup p with
    | some v => ∃ u, (ks.zip us).lookup p = some u ∧ RelV v u
    | none => (ks.zip us).lookup p = none)
  | [], _, _, _, _ => by simp
  | k :: ks, [], _, p, r => by cases r; simp
  | k :: ks, v :: vs, _, p, .cons (b := u) h t => by
    by_cases e : p = k
    · subst e
      simp only [List.zip_cons_cons, List.lookup_cons, beq_self_eq_true]
      exact ⟨u, rfl, h⟩
    · have hb : (p == k) = false := beq_eq_false_iff_ne.mpr e
      simp only [List.zip_cons_cons, List.lookup_cons, hb]
      exact lookup_zipV p t
theorem lookup_zipR {K : PySem.W.Frag} {H : Hp} : ∀ {ks : List Str} {ds : List D} {vs : List V} (p : Str), RepL K H ds vs → (match (ks.zip ds).lookup p with
    | some d => ∃ v, (ks.zip vs).lookup p = some v ∧ Rep K H d v
    | none => (ks.zip vs).lookup p = none)
  | [], _, _, _, _ => by simp
  | k :: ks, [], vs, p, r => by rw [r.nil_inv]; simp
  | k :: ks, d :: ds, vs, p, r => by
    obtain ⟨v, vr, rfl, h, t⟩ := r.cons_inv
    by_cases e : p = k
    · subst e
      simp only [List.zip_cons_cons, List.lookup_cons, beq_self_eq_true]
      exact ⟨v, rfl, h⟩
    · have hb : (p == k) = false := beq_eq_false_iff_ne.mpr e
      simp only [List.zip_cons_cons, List.lookup_cons, hb]
      exact lookup_zipR p t
theorem kw_vals {ps ks : List Str} {vs zs : List V} {us ws : List Value} (r : Vals vs us) (rz : Vals zs ws) : Vals (kwArr ps vs ks zs) (kwArr ps us ks ws) := by
  unfold kwArr
  rw [r.length]
  refine r.append ?_
  generalize ps.drop us.length = l
  induction l with
  | nil => exact .nil
  | cons p l ih =>
    have z := lookup_zipV (ks := ks) p rz
    rw [List.filterMap_cons, List.filterMap_cons]
    cases e : (ks.zip zs).lookup p with
    | none => rw [e] at z; rw [z]; exact ih
    | some v =>
      rw [e] at z
      obtain ⟨u, e2, ru⟩ := z
      rw [e2]
      exact .cons ru ih
theorem kw_reps {K : PySem.W.Frag} {H : Hp} {ps ks : List Str} {ds es : List D} {vs zs : List V} (r : RepL K H ds vs) (rz : RepL K H es zs) : RepL K H (kwArr ps ds ks es) (kwArr ps vs ks zs) := by
  unfold kwArr
  rw [r.length]
  refine r.append ?_
  generalize ps.drop vs.length = l
  induction l with
  | nil => exact .nil
  | cons p l ih =>
    have z := lookup_zipR (ks := ks) p rz
    rw [List.filterMap_cons, List.filterMap_cons]
    cases e : (ks.zip es).lookup p with
    | none => rw [e] at z; rw [z]; exact ih
    | some v =>
      rw [e] at z
      obtain ⟨u, e2, ru⟩ := z
      rw [e2]
      exact .cons ru ih
theorem le_callk {k : Nat} {ks : List Str} {fa : Addr} {fd : FuncData} {ps : List Str} {g : CallT} {x : Str} {es : List Expr} {kws : List Keyword} {t tk : DA} {p : Pos} (F : FnG X.prog X.w X.K X.mg X.base k fa fd ps g) (hr : Room k X.A) (hgd : X.A.guards = some []) (hg : Gl X x) (hm : X.mg x = some (.ref fa)) (hk : PySem.W.keepIn X.K (.ref fa) = true)
    (hb : KwB X.K fd ps ks) (ha : PA X es (LA X.K B t)) (hkw : PK X kws (LA X.K B tk)) (hdb : (x == ("__debug__" : Str)) = false) (hst : (starEach es X.env).any (·.1) = false)
    (hall : (backToKw pos (keywordEach kws X.env)).all (·.1.isSome) = true) (hks : (backToKw pos (keywordEach kws X.env)).filterMap (·.1) = ks) {E : ED} (tkx : Takes X (WXE X.K B E)) :
    PE X (.Call (.Name x p) es kws pos) (LE X.K B fun σ M Q => t σ M fun ds M1 => tk σ M1 fun es M2 => (ds.length + es.length = ps.length ∧ es.length = ks.length) ∧ g (kwArr ps ds ks es) M2 Q fun C ks vs M3 => E C ks vs σ M3) := by
  refine pe_of fun pins s σ H σd M Qd I a ht => ?_
  refine wpAny_Call_Name_kw (ld_glob I hg hm ?_ hdb)
  have hno : (backToKw pos (keywordEach kws X.env)).any (·.1.isNone) = false := by
    cases e : (backToKw pos (keywordEach kws X.env)).any (·.1.isNone) with
    | false => rfl
    | true =>
      obtain ⟨y, hy, h1⟩ := List.any_eq_true.mp e
      have h2 := (List.all_eq_true.mp hall) y hy
      cases q : y.1 <;> simp [q] at h1 h2
  refine PySem.W.callWith_of (by rw [any_back hst, hno]; rfl) (PySem.W.keeps_K hk) (evalArgs_kwg (any_back hst) hall (thn (la_run ha I a ht pos) fun us s1 ⟨ds, M1, vs, H1, I1, rv, f1, rl, m1, q⟩ => ?_))
  refine thn (lk_run hkw I1 (a.go f1 m1) q pos) fun ws s2 ⟨es', M2, zs, H2, I2, rz, f2, rl2, m2, ⟨hl, hl2⟩, q2⟩ => ⟨I2.kIn, ?_⟩
  rw [hks]
  exact thn (run_g F hr hgd I2 (hb _ _ _ I2.kIn (by rw [List.nil_append, ← rv.length, ← rl.length, ← rz.length, ← rl2.length]; exact hl) (by rw [← rz.length, ← rl2.length]; exact hl2)) (kw_vals rv rz) (kw_reps (rl.keep (f2.keep m1)) rl2) m2 tkx (kx_at ((a.go f1 m1).go f2 m2)) q2) fun u s' h => EPD.pre (f1.trans f2) h
/-- o.m(..) -/
theorem meth_eq {o : Expr} {m : Str} {apos : Pos} {es : List Expr} {env : Env} (hb : attributeBase o m env (eval o env) = eval o env) (hst : (starEach es env).any (·.1) = false) (hn : es.length < 30) (hl : (apos.endLine == pos.line) = true) :
    eval (.Call (.Attribute o m apos) es [] pos) env = (do
      let ov ← eval o env
      standAt apos.atName
      let (f, first) ← holding [ov] (getMethod ov m (do return (← importBound o env).getD true))
      callWith pos f first (backTo pos (starEach es env)) (backToKw pos (keywordEach [] env))) := by
  rw [arm_eval_Call, hb]
  have hf : methodCallForm (es.length + ([] : List Keyword).length) (backTo pos (starEach es env)) (backToKw pos (keywordEach [] env)) = true := by
    unfold methodCallForm
    have h1 : (backTo pos (starEach es env)).all (fun x => !x.1) = true := by
      rw [← List.not_any_eq_all_not, any_back hst]; rfl
    rw [h1]
    show (true && true && decide (es.length + 0 + 0 < 30)) = true
    simp [hn]
  unfold methodCall methodCallPos calleeOf
  simp only [hf, hl, if_true, Bool.not_true, Bool.false_or, pure_bind]
theorem le_meth {k : Nat} {g : Str → CallT} {m : Str} {o : Expr} {es : List Expr} {to : DE} {t : DA} {apos : Pos} {ok : Str → Prop}
    (W : ∀ C, ok C → ∃ fa fd ps, Cls X.K (He.ga X.K C) ∧ Meth X.K (He.ga X.K C) m fa ∧ Binds X.K fd ps [] ∧ FnG X.prog X.w X.K X.mg X.base k fa fd ps (g C)) (hr : Room k X.A) (hgd : X.A.guards = some [])
    (ho : PE X o (LE X.K B to)) (ha : PA X es (LA X.K B t)) (hbase : attributeBase o m X.env (eval o X.env) = eval o X.env) (hst : (starEach es X.env).any (·.1) = false) (hn : es.length < 30) (hl : (apos.endLine == pos.line) = true) {E : ED} (tk : Takes X (WXE X.K B E)) :
    PE X (.Call (.Attribute o m apos) es [] pos) (LE X.K B fun σ M Q => to σ M fun x M1 => ∃ p C ks vs, x = .ref p ∧ M1 p = some (.ins C ks vs) ∧ m ∉ ks ∧ ok C ∧ t σ M1 fun ds M2 => g C (x :: ds) M2 Q fun C ks vs M2 => E C ks vs σ M2) := by
  refine pe_of fun pins s σ H σd M Qd I a ht => ?_
  refine PySem.W.methodCall_KW (thn (RX.PE.at ho I a ht) fun u s1 ⟨d, M1, v, H1, I1, rv, f1, rd, m1, p, C, ks, ds, e, eM, hno, hok, q⟩ => ?_) (meth_eq hbase hst hn hl)
  subst e
  cases (rep_ref rd)
  obtain rfl : u = Value.ref p := rv
  obtain ⟨fa, fd, ps, c, hm, hb, F⟩ := W C hok
  obtain ⟨dx, vs, h1, hl1, rl1⟩ := m1 _ _ eM
  have hlk : (ks.zip vs).lookup m = none := by
    rw [List.lookup_eq_none_iff]
    intro y hy
    have z : y.1 ∈ ks := (List.of_mem_zip (a := y.1) (b := y.2) hy).1
    have ne : m ≠ y.1 := fun e => hno (by rw [e]; exact z)
    first
      | exact beq_eq_false_iff_ne.mpr ne
      | exact ne
      | simpa using ne
  refine getmeth_ok I1 h1 c hm hlk ?_
  refine PySem.W.callWith_of (by rw [any_back hst]; rfl) (PySem.W.keeps_K hm.kp) (evalArgs_gen (any_back hst) (thn (la_run ha I1 (a.go f1 m1) q pos) fun us s2 ⟨es', M2, ws, H2, I2, rw', f2, rl2, m2, q2⟩ => ⟨I2.kIn, ?_⟩))
  refine thn (run_g (us := .ref p :: us) (vs := .ref p :: ws) (ds := .ref p :: es') F hr hgd I2 (bind_all hb I2.kIn ?_) (.cons rfl rw') (.cons (mk_ref p) rl2) m2 tk (kx_at ((a.go f1 m1).go f2 m2)) q2) fun u s' h => EPD.pre (f1.trans f2) h
  have := F.len _ _ _ _ q2
  rw [List.length_cons] at this ⊢
  rw [← rw'.length, ← rl2.length]
  exact this
/-- C(..) -/
theorem le_make {k : Nat} {fa : Addr} {fd : FuncData} {ps : List Str} {g : CallT} {C : Str} {es : List Expr} {t : DA} {p : Pos} (F : FnG X.prog X.w X.K X.mg X.base k fa fd ps g) (hM : Mk X.K (He.ga X.K C) fa) (hr : Room (k + 1) X.A) (hgd : X.A.guards = some []) (hg : Gl X C) (hm : X.mg C = some (.ref (He.ga X.K C)))
    (hb : Binds X.K fd ps []) (ha : PA X es (LA X.K B t)) (hdb : (C == ("__debug__" : Str)) = false) (hst : (starEach es X.env).any (·.1) = false) :
    PE X (.Call (.Name C p) es [] pos) (LE X.K B fun σ M Q => t σ M fun ds M1 => (ds.length + 1 = ps.length) ∧ ∀ p, M1 p = none → g (.ref p :: ds) (up M1 p (.ins C [] [])) (fun d M2 => d = .non ∧ Q (.ref p) M2) XF) := by
  refine pe_of fun pins s σ H σd M Qd I a ht => ?_
  refine wpAny_Call_Name_kw (ld_glob I hg hm ?_ hdb)
  refine PySem.W.callWith_of (by rw [any_back hst]; rfl) (PySem.W.keeps_K hM.kp) (evalArgs_gen (any_back hst) (thn (la_run ha I a ht pos) fun us s1 ⟨ds, M1, vs, H1, I1, rv, f1, rl, m1, hl, q⟩ => ⟨I1.kIn, ?_⟩))
  exact thn (run_mk (us := us) (vs := vs) (bs := fun y => y :: us) rfl hM F hr hgd I1 (fun s' y hk => bind_all hb hk (by rw [List.length_cons, ← rv.length, ← rl.length]; exact hl)) (fun y u r => .cons r rv) rl m1 q) fun u s' h => EPD.pre f1 h
end
end RX
set_option Elab.async false
set_option linter.all false
set_option maxRecDepth 100000
set_option maxHeartbeats 4000000
/-! RX8: walks, targets, comprehensions, statements. -/
namespace RX
open PySem PySem.Spec PyProof.Rows L2

section
variable {K : PySem.W.Frag}
theorem it_vals {M0 : MM} {H0 : Hp} {xs : List D} {vs : List V} {J : It} {stab : MM → Prop} (at_ : ∀ M H, Fr M0 H0 M H → RepM K M H → stab M → ∃ vs, RepL K H xs vs ∧ (∀ i, i < vs.length → J.go i H) ∧ J.stop vs.length H ∧ ∀ i x H', J.yld i H x H' → H' = H ∧ vs[i]? = some x) : ItOk K M0 H0 J xs stab where
  go := fun i M H f m s hi => by
    obtain ⟨vs, r, h1, _⟩ := at_ M H f m s
    exact h1 i (by rw [← r.length]; exact hi)
  stop := fun M H f m s => by
    obtain ⟨vs, r, _, h2, _⟩ := at_ M H f m s
    rw [r.length]; exact h2
  yld := fun i M H x H' f m s hi y => by
    obtain ⟨vs, r, _, _, h3⟩ := at_ M H f m s
    obtain ⟨e, hv⟩ := h3 i x H' y
    subst e
    obtain ⟨d, hd, rd⟩ := r.getV hv
    exact ⟨d, hd, rd, .refl, m⟩
theorem it_list {M0 : MM} {H0 : Hp} {xs : List D} {a : Addr} {stab : MM → Prop} (h : ∀ M H, Fr M0 H0 M H → RepM K M H → stab M → ∃ vs, RepL K H xs vs ∧ SqL K H a vs) : ItOk K M0 H0 (Itl K a) xs stab :=
  it_vals (vs := []) fun M H f m s => by
    obtain ⟨vs, r, hs⟩ := h M H f m s
    exact ⟨vs, r, fun i hi => ⟨vs, vs[i], hs, by simp [hi]⟩, ⟨vs, hs, Nat.le_refl _⟩, fun i x H' ⟨e, y⟩ => ⟨e, y vs hs⟩⟩
theorem it_tup {M0 : MM} {H0 : Hp} {xs : List D} {a : Addr} {stab : MM → Prop} (h : ∀ M H, Fr M0 H0 M H → RepM K M H → stab M → ∃ vs, RepL K H xs vs ∧ SqT K H a vs) : ItOk K M0 H0 (Itt K a) xs stab :=
  it_vals (vs := []) fun M H f m s => by
    obtain ⟨vs, r, hs⟩ := h M H f m s
    exact ⟨vs, r, fun i hi => ⟨vs, vs[i], hs, by simp [hi]⟩, ⟨vs, hs, Nat.le_refl _⟩, fun i x H' ⟨e, y⟩ => ⟨e, y vs hs⟩⟩
theorem rngD_get : ∀ (n : Nat) (lo : Int) (i : Nat), i < n → (rngD lo n)[i]? = some (.int (lo + i))
  | n + 1, lo, 0, _ => by simp [rngD]
  | n + 1, lo, i + 1, h => by
    simp only [rngD, List.getElem?_cons_succ]
    rw [rngD_get n (lo + 1) i (by omega)]
    congr 2
    omega
theorem rngD_len : ∀ (n : Nat) (lo : Int), (rngD lo n).length = n
  | 0, _ => rfl
  | n + 1, lo => by rw [rngD, List.length_cons, rngD_len n]
theorem it_rng {M0 : MM} {H0 : Hp} {lo : Int} {n : Nat} : ItOk K M0 H0 (Itr lo n) (rngD lo n) fun _ => True where
  go := fun i M H f m s hi => by rw [rngD_len] at hi; exact hi
  stop := fun M H f m s => by rw [rngD_len]; exact Nat.le_refl _
  yld := fun i M H x H' f m s hi ⟨e, ex⟩ => by
    subst e ex
    rw [rngD_len] at hi
    exact ⟨_, rngD_get n lo i hi, mk_int _, .refl, m⟩
theorem strD_len (z : Str) : (strD z).length = z.cps.size := by simp [strD]
theorem it_str {M0 : MM} {H0 : Hp} {z : Str} : ItOk K M0 H0 (Its z) (strD z) fun _ => True where
  go := fun i M H f m s hi => by rw [strD_len] at hi; exact hi
  stop := fun M H f m s => by rw [strD_len]; exact Nat.le_refl _
  yld := fun i M H x H' f m s hi ⟨e, c, hc, ex⟩ => by
    subst e ex
    refine ⟨.str ⟨#[c]⟩, ?_, mk_str _, .refl, m⟩
    unfold strD
    rw [List.getElem?_map, Array.getElem?_toList, hc]
    rfl
theorem pairD_get : ∀ (xs : List D) (k i : Nat), (pairD xs k)[i]? = (xs[i]?).map fun d => D.wtp [.int ((k + i : Nat) : Int), d]
  | [], k, i => by simp [pairD]
  | x :: xs, k, 0 => by simp [pairD]
  | x :: xs, k, i + 1 => by
    simp only [pairD, List.getElem?_cons_succ]
    rw [pairD_get xs (k + 1) i]
    congr 1
    funext d
    rw [show k + 1 + i = k + (i + 1) by omega]
theorem pairD_len : ∀ (xs : List D) (k : Nat), (pairD xs k).length = xs.length
  | [], _ => rfl
  | x :: xs, k => by rw [pairD, List.length_cons, pairD_len, List.length_cons]
theorem it_enum {M0 : MM} {H0 : Hp} {xs : List D} {a : Addr} {stab : MM → Prop} (h : ∀ M H, Fr M0 H0 M H → RepM K M H → stab M → ∃ vs, RepL K H xs vs ∧ SqL K H a vs) : ItOk K M0 H0 (Ite K a) (pairD xs 0) stab where
  go := fun i M H f m s hi => by
    obtain ⟨vs, r, hs⟩ := h M H f m s
    rw [pairD_len, r.length] at hi
    exact ⟨vs, vs[i], hs, by simp [hi]⟩
  stop := fun M H f m s => by
    obtain ⟨vs, r, hs⟩ := h M H f m s
    rw [pairD_len, r.length]
    exact ⟨vs, hs, Nat.le_refl _⟩
  yld := fun i M H x H' f m s hi ⟨T, y, ex, hT, eH, hy⟩ => by
    obtain ⟨vs, r, hs⟩ := h M H f m s
    subst ex eH
    obtain ⟨d, hd, rd⟩ := r.getV (hy vs hs)
    have k : KeepF H (upd H T (.tup [.int (i : Nat), y])) := .new hT
    refine ⟨.wtp [.int (i : Nat), d], ?_, mk_wtp (.inl (.of upd_same)) (.cons (mk_int _) (.cons (rd.keep k) .nil)), .hid hT, m.hid hT⟩
    rw [pairD_get, hd]
    simp
theorem zipD_get : ∀ (xs ys : List D) (i : Nat) (x y : D), xs[i]? = some x → ys[i]? = some y → (zipD xs ys)[i]? = some (.wtp [x, y])
  | [], _, _, _, _, h, _ => by simp at h
  | _ :: _, [], _, _, _, _, h => by simp at h
  | a :: xs, b :: ys, 0, x, y, h1, h2 => by
    cases (Option.some.inj h1)
    cases (Option.some.inj h2)
    rfl
  | a :: xs, b :: ys, i + 1, x, y, h1, h2 => by
    simp only [zipD, List.getElem?_cons_succ] at h1 h2 ⊢
    exact zipD_get xs ys i x y h1 h2
theorem zipD_len : ∀ (xs ys : List D), (zipD xs ys).length = min xs.length ys.length
  | [], ys => by simp [zipD]
  | _ :: _, [] => by simp [zipD]
  | a :: xs, b :: ys => by rw [zipD, List.length_cons, zipD_len, List.length_cons, List.length_cons]; omega
theorem it_zip {M0 : MM} {H0 : Hp} {xs ys : List D} {a b : Addr} {s1 s2 : MM → Prop} (h1 : ∀ M H, Fr M0 H0 M H → RepM K M H → s1 M → ∃ vs, RepL K H xs vs ∧ SqL K H a vs) (h2 : ∀ M H, Fr M0 H0 M H → RepM K M H → s2 M → ∃ vs, RepL K H ys vs ∧ SqL K H b vs) :
    ItOk K M0 H0 (Itz K a b) (zipD xs ys) (fun M => s1 M ∧ s2 M) where
  go := fun i M H f m s hi => by
    obtain ⟨vs, r, hs⟩ := h1 M H f m s.1
    obtain ⟨ws, r2, hs2⟩ := h2 M H f m s.2
    rw [zipD_len, r.length, r2.length] at hi
    exact ⟨vs, ws, vs[i]'(by omega), ws[i]'(by omega), hs, hs2, List.getElem?_eq_getElem _, List.getElem?_eq_getElem _⟩
  stop := fun M H f m s => by
    obtain ⟨vs, r, hs⟩ := h1 M H f m s.1
    obtain ⟨ws, r2, hs2⟩ := h2 M H f m s.2
    rw [zipD_len, r.length, r2.length]
    exact ⟨vs, ws, hs, hs2, by omega⟩
  yld := fun i M H x H' f m s hi ⟨T, y, z, ex, hT, eH, hy, hz⟩ => by
    obtain ⟨vs, r, hs⟩ := h1 M H f m s.1
    obtain ⟨ws, r2, hs2⟩ := h2 M H f m s.2
    subst ex eH
    obtain ⟨d, hd, rd⟩ := r.getV (hy vs hs)
    obtain ⟨e, he, re⟩ := r2.getV (hz ws hs2)
    have k : KeepF H (upd H T (.tup [y, z])) := .new hT
    exact ⟨.wtp [d, e], zipD_get _ _ _ _ _ hd he, mk_wtp (.inl (.of upd_same)) (.cons (rd.keep k) (.cons (re.keep k) .nil)), .hid hT, m.hid hT⟩
end
section
variable {X : Cx} {B : Bs} {pos : Pos}
/-- a value that is walked -/
theorem seqD_at {K : PySem.W.Frag} {M : MM} {H : Hp} {d : D} {v : V} {R : List D → (MM → Prop) → Prop} (h : seqD d M R) (r : Rep K H d v) (m : RepM K M H) : ∃ a xs stab, v = .ref a ∧ (∃ vs, SqL K H a vs) ∧ R xs stab ∧ ∀ M' H', Fr M H M' H' → RepM K M' H' → stab M' → ∃ vs, RepL K H' xs vs ∧ SqL K H' a vs := by
  unfold seqD at h
  split at h
  · rename_i xs
    obtain ⟨a, vs, e, hs, rl⟩ := rep_lst r
    refine ⟨a, xs, _, e, ⟨vs, hs.sql⟩, h, fun M' H' f m' _ => ⟨vs, rl.keep (f.keep m), ((f.keep m).fzl hs).sql⟩⟩
  · rename_i a
    obtain ⟨xs, e, q⟩ := h
    obtain ⟨vs, hs, rl⟩ := m _ _ e
    refine ⟨a, xs, _, rep_ref r, ⟨vs, .inl (.inl hs)⟩, q, fun M' H' f m' e' => ?_⟩
    obtain ⟨ws, hs', rl'⟩ := m' _ _ e'
    exact ⟨ws, rl', .inl (.inl hs')⟩
  · exact h.elim
theorem li_seq {tg e : Expr} {te : DE} (he : PE X e (LE X.K B te)) : PI X tg e (LI X.K B fun σ M R => te σ M fun x M1 => itD x M1 fun xs stab => R xs stab M1) := by
  refine ⟨fun pins s σ H R I ⟨σd, M, Rd, a, t, k⟩ => ?_⟩
  refine thn (RX.PE.at he I a t) fun u s1 ⟨d, M1, v, H1, I1, rv, f1, rd, m1, q0⟩ => ?_
  have q : itD d M1 fun xs stab => Rd xs stab M1 := q0
  clear q0
  have lists : ∀ {p : Addr} {xs : List D} {stab : MM → Prop}, v = .ref p → (∃ vs, SqL X.K H1 p vs) → Rd xs stab M1 → (∀ M' H', Fr M1 H1 M' H' → RepM X.K M' H' → stab M' → ∃ vs, RepL X.K H' xs vs ∧ SqL X.K H' p vs) →
      wpAny (model X.prog X.w) X.A (pyIter u) (PIE X pins σ tg R) X.xe s1 := by
    intro p xs stab e ⟨vs, hs⟩ q h
    subst e
    cases rv
    obtain ⟨its, rv, pl, hz⟩ := I1.list hs
    refine wpAny_pyIter_list pl.isList ?_
    exact pi_one (tk := s1.toks) I1 _ (turn_list p _) ⟨_, Heap.get?_push_size _ rfl, rfl, rfl⟩ (k xs stab M1 _ H1 f1 m1 (it_list h) q)
  unfold itD at q
  split at q
  · rename_i xs
    obtain ⟨p, vs, e, hs, rl⟩ := rep_tup rd
    subst e
    cases rv
    obtain ⟨its, rv, pl, hz⟩ := I1.tuple hs
    refine wpAny_pyIter_tuple (show s1.heap.IsTuple p its.toArray from pl) ?_
    exact pi_one (tk := s1.toks) I1 _ (turn_tuple p _) ⟨_, Heap.get?_push_size _ rfl, rfl, rfl⟩ (k xs _ M1 _ H1 f1 m1 (it_tup fun M' H' f m' _ => ⟨vs, rl.keep (f.keep m1), (f.keep m1).sqt hs⟩) q)
  · rename_i xs
    obtain ⟨p, vs, e, hs, rl⟩ := rep_lst rd
    exact lists e ⟨vs, hs.sql⟩ q fun M' H' f m' _ => ⟨vs, rl.keep (f.keep m1), ((f.keep m1).fzl hs).sql⟩
  · rename_i z
    cases (rep_str rd)
    obtain ⟨t', rfl⟩ := rv
    have z1 := k (strD z) _ M1 _ H1 f1 m1 it_str q
    cases ha : z.cps.all (· < 128)
    · exact wpAny_pyIter_wide ha (pi_one (tk := s1.toks) I1 _ (turn_str _ z t' "str_iterator" (.inr rfl)) ⟨_, Heap.get?_push_size _ rfl, rfl, rfl⟩ z1)
    · exact wpAny_pyIter_ascii ha (pi_one (tk := s1.toks) I1 _ (turn_str _ z t' "str_ascii_iterator" (.inl rfl)) ⟨_, Heap.get?_push_size _ rfl, rfl, rfl⟩ z1)
  · rename_i p
    obtain ⟨xs, e, q⟩ := q
    obtain ⟨vs, hs, rl⟩ := m1 _ _ e
    refine lists (rep_ref rd) ⟨vs, .inl (.inl hs)⟩ q fun M' H' f m' e' => ?_
    obtain ⟨ws, hs', rl'⟩ := m' _ _ e'
    exact ⟨ws, rl', .inl (.inl hs')⟩
  · exact q.elim
theorem li_range1 {tg a : Expr} {ta : DE} {p : Pos} (hg : Gl X "range") (hm : X.mg "range" = none) (ha : PE X a (LE X.K B ta)) (hs : starEach [a] X.env = [(false, eval a X.env)]) :
    PI X tg (.Call (.Name "range" p) [a] [] pos) (LI X.K B fun σ M R => ta σ M fun x M1 => ∃ j, x = .int j ∧ -(2 ^ 62) ≤ j ∧ j < 2 ^ 62 ∧ R (rngD 0 j.toNat) (fun _ => True) M1) := by
  refine ⟨fun pins s σ H R I ⟨σd, M, Rd, a', t, k⟩ => (pi_range1 hg hm (pa_cons ha pa_nil hs) hs).run pins s σ H R I ?_⟩
  exact LE.seq a' t fun d M1 v H1 f1 a1 r1 ⟨j, e, h1, h2, q⟩ => ⟨j, by rw [e] at r1; rw [rep_int r1], h1, h2, k _ _ M1 _ H1 f1 a1.m it_rng q⟩
theorem li_range2 {tg a b : Expr} {ta tb : DE} {p : Pos} (hg : Gl X "range") (hm : X.mg "range" = none) (ha : PE X a (LE X.K B ta)) (hb : PE X b (LE X.K B tb)) (hs : starEach [a, b] X.env = [(false, eval a X.env), (false, eval b X.env)]) (hs2 : starEach [b] X.env = [(false, eval b X.env)]) :
    PI X tg (.Call (.Name "range" p) [a, b] [] pos) (LI X.K B fun σ M R => ta σ M fun x M1 => tb σ M1 fun y M2 => ∃ i j, x = .int i ∧ y = .int j ∧ (-(2 ^ 62) ≤ i ∧ i < 2 ^ 62 ∧ -(2 ^ 62) ≤ j ∧ j < 2 ^ 62) ∧ R (rngD i (j - i).toNat) (fun _ => True) M2) := by
  refine ⟨fun pins s σ H R I ⟨σd, M, Rd, a', t, k⟩ => (pi_range2 hg hm (pa_cons ha (pa_cons hb pa_nil hs2) (hs.trans (by rw [hs2]))) hs hs2).run pins s σ H R I ?_⟩
  exact LE.seq a' t fun d M1 v H1 f1 a1 r1 q1 => LE.seq a1 q1 fun d2 M2 v2 H2 f2 a2 r2 ⟨i, j, e1, e2, hb, q⟩ => ⟨i, j, by rw [e1] at r1; rw [e2] at r2; rw [rep_int r1, rep_int r2], hb, k _ _ M2 _ H2 (f1.trans f2) a2.m it_rng q⟩
theorem li_enum {e : Expr} {te : DE} {p tpos : Pos} {elts : List Expr} {kk : Nat} (hg : Gl X "enumerate") (hm : X.mg "enumerate" = none) (he : PE X e (LE X.K B te)) (hs : starEach [e] X.env = [(false, eval e X.env)]) :
    PI X (.Tuple elts kk tpos) (.Call (.Name "enumerate" p) [e] [] pos) (LI X.K B fun σ M R => te σ M fun x M1 => seqD x M1 fun xs stab => R (pairD xs 0) stab M1) := by
  refine ⟨fun pins s σ H R I ⟨σd, M, Rd, a', t, k⟩ => (pi_enum hg hm (pa_cons he pa_nil hs) hs).run pins s σ H R I ?_⟩
  refine LE.seq a' t fun d M1 v H1 f1 a1 r1 q => ?_
  obtain ⟨p, xs, stab, e, ⟨vs, hv⟩, q2, h⟩ := seqD_at q r1 a1.m
  exact ⟨p, vs, by rw [e], hv, k _ _ M1 _ H1 f1 a1.m (it_enum h) q2⟩
theorem li_zip {e e2 : Expr} {te tf : DE} {p tpos : Pos} {elts : List Expr} {kk : Nat} (hg : Gl X "zip") (hm : X.mg "zip" = none) (he : PE X e (LE X.K B te)) (hf : PE X e2 (LE X.K B tf)) (hs : starEach [e, e2] X.env = (false, eval e X.env) :: starEach [e2] X.env) (hs2 : starEach [e2] X.env = [(false, eval e2 X.env)]) :
    PI X (.Tuple elts kk tpos) (.Call (.Name "zip" p) [e, e2] [] pos) (LI X.K B fun σ M R => te σ M fun x M1 => tf σ M1 fun y M2 => seqD x M2 fun xs s1 => seqD y M2 fun ys s2 => R (zipD xs ys) (fun M' => s1 M' ∧ s2 M') M2) := by
  refine ⟨fun pins s σ H R I ⟨σd, M, Rd, a', t, k⟩ => (pi_zip hg hm (pa_cons he (pa_cons hf pa_nil hs2) hs) hs (by rw [hs2]; rfl)).run pins s σ H R I ?_⟩
  refine LE.seq a' t fun d M1 v H1 f1 a1 r1 q1 => LE.seq a1 q1 fun d2 M2 v2 H2 f2 a2 r2 q => ?_
  obtain ⟨p, xs, s1, e, ⟨vs, hv⟩, q2, h⟩ := seqD_at q (a1.rep f2 r1) a2.m
  obtain ⟨p2, ys, s2, e2, ⟨ws, hw⟩, q3, h2⟩ := seqD_at q2 r2 a2.m
  exact ⟨p, p2, vs, ws, by rw [e, e2], hv, hw, k _ _ M2 _ H2 (f1.trans f2) a2.m (it_zip h h2) q3⟩
/-! ### targets -/
theorem lg_name {i : Nat} {x : Str} (h : PG X (.Name x pos) (gName i)) : PG X (.Name x pos) (LGw X.K B [i] fun d σ M Q => Q (σ.set i (some d)) M) :=
  h.imp fun v σ H Q ⟨d, σd, M, Qd, r, a, q, k⟩ => k _ M _ H .set .refl (a.s.set i (show RelD X.K H (some d) (some v) from r)) a.m q
theorem lgs_nil : PGs X [] (LGsw X.K B [] fun ds σ M Q => ds = [] ∧ Q σ M) :=
  pgs_nil.imp fun vs σ H Q ⟨ds, σd, M, Qd, r, a, ⟨e, q⟩, k⟩ => ⟨by subst e; exact r.nil_inv, k _ M _ H .refl .refl a.s a.m q⟩
theorem lgs_cons {e : Expr} {es : List Expr} {ws vs : List Nat} {t : DG} {u : DGs} (h1 : PG X e (LGw X.K B ws t)) (h2 : PGs X es (LGsw X.K B vs u)) (hs : (assignEach (e :: es) X.env).map (·.2) = assign e X.env :: (assignEach es X.env).map (·.2)) :
    PGs X (e :: es) (LGsw X.K B (ws ++ vs) fun ds σ M Q => ∃ d r, ds = d :: r ∧ t d σ M fun σ1 M1 => u r σ1 M1 Q) :=
  (pgs_cons h1 h2 hs).imp fun zs σ H Q ⟨ds, σd, M, Qd, r, a, ⟨d, rest, e, q⟩, k⟩ => by
    subst e
    obtain ⟨v, vr, e, r1, r2⟩ := r.cons_inv
    exact ⟨v, vr, e, d, σd, M, _, r1, a, q, fun σd1 M1 σ1 H1 s1 f1 rs1 m1 q1 => ⟨rest, σd1, M1, Qd, a.repL f1 r2, ⟨a.b.trans f1, rs1, m1⟩, q1, fun σd2 M2 σ2 H2 s2 f2 rs2 m2 q2 => k σd2 M2 σ2 H2 (s1.trans s2) (f1.trans f2) rs2 m2 q2⟩⟩
theorem lg_tup {es : List Expr} {kk n : Nat} {ws : List Nat} {t : DGs} (hc : X.calm = true) (h : PGs X es (LGsw X.K B ws t)) (hn : (assignEach es X.env).length = n) (hst : (assignEach es X.env).findIdx? (·.1) = none) :
    PG X (.Tuple es kk pos) (LGw X.K B ws fun d σ M Q => match d with
      | .tup ds => ds.length = n ∧ t ds σ M Q
      | .wtp ds => ds.length = n ∧ t ds σ M Q
      | _ => False) :=
  (pg_tup hc h hn hst).imp fun v σ H Q ⟨d, σd, M, Qd, r, a, q, k⟩ => by
    cases d with
    | tup ds =>
      obtain ⟨p, vs, e, hs, rl⟩ := rep_tup r
      exact ⟨p, vs, e, hs, by rw [← rl.length]; exact q.1, ds, σd, M, Qd, rl, a, q.2, k⟩
    | wtp ds =>
      obtain ⟨p, vs, e, hs, rl⟩ := rep_wtp r
      exact ⟨p, vs, e, hs, by rw [← rl.length]; exact q.1, ds, σd, M, Qd, rl, a, q.2, k⟩
    | _ => exact q.elim
/-- a, b, .. = a list -/
theorem lg_lup {es : List Expr} {kk n : Nat} {ws : List Nat} {t : DGs} (hc : X.calm = true) (h : PGs X es (LGsw X.K B ws t)) (hn : (assignEach es X.env).length = n) (hst : (assignEach es X.env).findIdx? (·.1) = none) :
    PG X (.Tuple es kk pos) (LGw X.K B ws fun d σ M Q => ∃ ds, lsOf M d = some ds ∧ ds.length = n ∧ t ds σ M Q) :=
  (pg_lst hc h hn hst).imp fun v σ H Q ⟨d, σd, M, Qd, r, a, ⟨ds, e, hl, q⟩, k⟩ => by
    obtain ⟨p, vs, rfl, hs, rl⟩ := lsOf_rep e r a.m
    exact ⟨p, vs, rfl, hs.sql, by rw [← rl.length]; exact hl, ds, σd, M, Qd, rl, a, q, k⟩
end
end RX
set_option Elab.async false
set_option linter.all false
set_option maxRecDepth 100000
set_option maxHeartbeats 4000000
/-! RX8z: zip of a tuple and a list. -/
namespace RX
open PySem PySem.Spec PyProof.Rows L2
def ItzM (K : PySem.W.Frag) (a b : Addr) : It :=
  ⟨fun i H => ∃ (xs ys : List V) (x y : V), SqT K H a xs ∧ SqL K H b ys ∧ xs[i]? = some x ∧ ys[i]? = some y,
    fun i H v H' => ∃ T x y, v = .ref T ∧ H T = none ∧ H' = upd H T (.tup [x, y]) ∧ (∀ xs, SqT K H a xs → xs[i]? = some x) ∧ ∀ ys, SqL K H b ys → ys[i]? = some y,
    fun i H => ∃ xs ys : List V, SqT K H a xs ∧ SqL K H b ys ∧ i ≤ xs.length ∧ i ≤ ys.length ∧ (i = xs.length ∨ i = ys.length)⟩
theorem sep_of {z TI TO i1 i2 a b : Addr} (D : ZipApart z TI TO i1 i2 a b) : ZipSep2 z TI TO i1 i2 [i1, a] [i2, b] := by
  refine ⟨D.TIz, D.TOz, D.TITO, D.TIi1, by simp, ?_, ?_, D.TIi2, by simp, ?_, ?_, ?_, ?_⟩
  · simp only [List.mem_cons, List.not_mem_nil, or_false, not_or]
    exact ⟨D.i1z.symm, D.l1z.symm⟩
  · simp only [List.mem_cons, List.not_mem_nil, or_false, not_or]
    exact ⟨D.TOi1, D.l1TO.symm⟩
  · simp only [List.mem_cons, List.not_mem_nil, or_false, not_or]
    exact ⟨D.i2z.symm, D.l2z.symm⟩
  · simp only [List.mem_cons, List.not_mem_nil, or_false, not_or]
    exact ⟨D.TOi2, D.l2TO.symm⟩
  · simp only [List.mem_cons, List.not_mem_nil, or_false, not_or]
    exact ⟨D.i12, D.l2i1.symm⟩
  · simp only [List.mem_cons, List.not_mem_nil, or_false, not_or]
    exact ⟨D.i12.symm, D.l1i2.symm⟩
theorem turn_zipM {P : Program} {w : World} {K : PySem.W.Frag} {elts : List Expr} {kk : Nat} {tpos : Pos} {a b z TI TO i1 i2 : Addr} (D : ZipApart z TI TO i1 i2 a b) :
    Turn P w K (.Tuple elts kk tpos) (ItzM K a b) [z, TI, TO, i1, i2] z (fun i h => IsZip h z TI TO .none ∧ IsPair h TI (.ref i1) (.ref i2) ∧ (∃ x y, IsPair h TO x y) ∧ h.IsTupleIter i1 a i ∧ h.IsListIter i2 b i) where
  mem := by simp
  obj := fun i h st c hc => by
    obtain ⟨hz, hTI, ⟨x, y, hTO⟩, ⟨o1, e1, _, d1⟩, ⟨o2, e2, _, d2⟩⟩ := st
    have e' : c = z ∨ c = TI ∨ c = TO ∨ c = i1 ∨ c = i2 := by simpa using hc
    rcases e' with q | q | q | q | q
    · rw [q]; exact ⟨_, hz, fun v q => nomatch q⟩
    · rw [q]; exact ⟨_, hTI, fun v q => nomatch q⟩
    · rw [q]; exact ⟨_, hTO, fun v q => nomatch q⟩
    · rw [q]; exact ⟨o1, e1, fun v q => by rw [d1] at q; cases q⟩
    · rw [q]; exact ⟨o2, e2, fun v q => by rw [d2] at q; cases q⟩
  keep := fun i h h' st k => by
    obtain ⟨hz, hTI, ⟨x, y, hTO⟩, h1, h2⟩ := st
    exact ⟨k z (by simp) _ hz, k TI (by simp) _ hTI, ⟨x, y, k TO (by simp) _ hTO⟩, h1.at fun o q => k i1 (by simp) o q, h2.at fun o q => k i2 (by simp) o q⟩
  item := by
    intro X hP hw hK hc i pins s σ H E I hf st hg
    subst hP hw hK
    obtain ⟨hz, hTI, ⟨x0, y0, hTO⟩, h1, h2⟩ := st
    obtain ⟨xs, ys, x, y, hqx, hqy, hx, hy⟩ := hg
    obtain ⟨its, rv, p, _⟩ := I.tuple hqx
    obtain ⟨its2, rv2, p2, _⟩ := I.list hqy
    obtain ⟨u, hu, ru⟩ := rv.get hx
    obtain ⟨u2, hu2, ru2⟩ := rv2.get hy
    have hzl : z < s.heap.objs.size := Heap.lt_size hz
    have hd : X.A.in1.handled = none := I.ok.hd hc
    have t1 : s.heap.IsTuple a its.toArray := p
    have t2 : s.heap.IsList b its2.toArray := p2.isList
    have lt1 : i < its.toArray.size := by rw [List.size_toArray]; exact (List.getElem?_eq_some_iff.mp hu).1
    have lt2 : i < its2.toArray.size := by rw [List.size_toArray]; exact (List.getElem?_eq_some_iff.mp hu2).1
    refine wpAny_pyNext_zipD2_item (sep_of D) (Draws.tuple hd i1 a D.l1i1 its.toArray) (Draws.list hd i2 b D.l2i2 its2.toArray) hz hTI hTO ⟨h1, t1⟩ ⟨h2, t2⟩ lt1 lt2 fun u' u2' h' tk eu eu2 z' TO' st1' st2' hT hsz hk => ?_
    have eu : u = u' := by
      have eu : its.toArray[i]? = some u' := eu
      rw [List.getElem?_toArray, hu] at eu
      injection eu
    have eu2 : u2 = u2' := by
      have eu2 : its2.toArray[i]? = some u2' := eu2
      rw [List.getElem?_toArray, hu2] at eu2
      injection eu2
    subst eu eu2
    obtain ⟨h1', _⟩ := st1'
    obtain ⟨h2', _⟩ := st2'
    refine ⟨_, rfl, wpAny_letOwnedTupleGo_zip (s := { s with heap := h', toks := tk }) z' fun h'' z'' sb => ?_⟩
    have hT2 : h''.get? s.heap.objs.size = some { cls := .type "tuple", data := .seq #[u, u2] } := (sb.2 _ (Nat.ne_of_gt hzl)).trans hT
    have new : ObjOk X.prog X.w (upd H s.heap.objs.size (.tup [x, y])) h'' s.heap.objs.size (.tup [x, y]) :=
      ⟨by show 2 ≤ sizeLine; decide, [u, u2], .cons ru (.cons ru2 .nil), ⟨_, hT2, rfl, _, rfl⟩⟩
    have I1 : Inv X pins σ (upd H s.heap.objs.size (.tup [x, y])) { s with heap := h'', toks := tk } :=
      I.turnedNew (t' := tk) (ch := [z, TI, TO, i1, i2]) (fun c o hb q => (sb.2 c (fun q' => hb (by simp [q']))).trans (hk c o (fun q' => hb (by simp [q'])) (fun q' => hb (by simp [q'])) (fun q' => hb (by simp [q'])) (fun q' => hb (by simp [q'])) q)) hf (Nat.le_refl _) new
    refine ⟨.ref s.heap.objs.size, _, I1, rfl, ⟨_, x, y, rfl, I.hok.fresh (Nat.le_refl _), rfl, fun l hl => by rw [I.tuple_inj hl hqx]; exact hx, fun l hl => by rw [I.list_inj hl hqy]; exact hy⟩, ⟨z'', ?_, ⟨u, u2, ?_⟩, ?_, ?_⟩, fun c hcm => ?_⟩
    · exact (sb.2 _ D.TIz).trans (hk _ _ D.TIz D.TITO D.TIi1 D.TIi2 hTI)
    · exact (sb.2 _ D.TOz).trans TO'
    · exact h1'.at fun o q => (sb.2 _ D.i1z).trans q
    · exact h2'.at fun o q => (sb.2 _ D.i2z).trans q
    · have hlt : c < s.heap.objs.size := by
        have e' : c = z ∨ c = TI ∨ c = TO ∨ c = i1 ∨ c = i2 := by simpa using hcm
        rcases e' with q | q | q | q | q
        · rw [q]; exact hzl
        · rw [q]; exact Heap.lt_size hTI
        · rw [q]; exact Heap.lt_size hTO
        · rw [q]; obtain ⟨_, e1, _⟩ := h1; exact Heap.lt_size e1
        · rw [q]; obtain ⟨_, e2, _⟩ := h2; exact Heap.lt_size e2
      rw [upd_ne (Nat.ne_of_lt hlt)]
      exact (hf c hcm).1
  done := by
    intro X hP hw hK hc i pins s σ H E I hf st hg
    subst hP hw hK
    obtain ⟨hz, hTI, ⟨x0, y0, hTO⟩, h1, h2⟩ := st
    obtain ⟨xs, ys, hqx, hqy, b1, b2, hend⟩ := hg
    obtain ⟨its, rv, p, _⟩ := I.tuple hqx
    obtain ⟨its2, rv2, p2, _⟩ := I.list hqy
    have l1 := rv.length
    have l2 := rv2.length
    have hd : X.A.in1.handled = none := I.ok.hd hc
    have t1 : s.heap.IsTuple a its.toArray := p
    have t2 : s.heap.IsList b its2.toArray := p2.isList
    refine wpAny_pyNext_zipD2_end (sep_of D) (Draws.tuple hd i1 a D.l1i1 its.toArray) (Draws.list hd i2 b D.l2i2 its2.toArray) hz hTI hTO ⟨h1, t1⟩ ⟨h2, t2⟩ (by rw [List.size_toArray]; omega) (by rw [List.size_toArray]; omega) (by rw [List.size_toArray, List.size_toArray]; omega) fun h' tk hk => ?_
    exact ⟨rfl, I.turnedL (t' := tk) (ch := [z, TI, TO, i1, i2]) (fun c o hb q =>
      hk c o (fun q' => hb (by simp [q'])) (fun q' => hb (by simp [q'])) (fun q' => hb (by simp [q'])) (fun q' => hb (by simp [q'])) q) hf⟩
  self := fun A i s Q E st h => wpAny_pyIter_zip st.1 h
abbrev zipMH1 (h : Heap) (l1 : Addr) : Heap := h.push { cls := .type "tuple_iterator", data := .fields #[.ref l1, .int 0 0] }
abbrev zipMH2 (h : Heap) (l1 l2 : Addr) : Heap := (zipMH1 h l1).push { cls := .type "list_iterator", data := .fields #[.ref l2, .int 0 0] }
abbrev zipMH3 (h : Heap) (l1 l2 : Addr) : Heap := (zipMH2 h l1 l2).push { cls := .type "tuple", data := .seq #[.ref h.objs.size, .ref (zipMH1 h l1).objs.size] }
abbrev zipMH4 (h : Heap) (l1 l2 : Addr) : Heap := (zipMH3 h l1 l2).push { cls := .type "tuple", data := .seq #[.none, .none] }
abbrev zipMH5 (h : Heap) (l1 l2 : Addr) : Heap := (zipMH4 h l1 l2).push { cls := .type "zip", data := .fields #[.none, .bool false, .bool false, .ref (zipMH2 h l1 l2).objs.size, .ref (zipMH3 h l1 l2).objs.size] }
theorem meets_zipM_new (l1 l2 : Addr) (xs ys : Array Value) :
    Meets (Builtin.«zip.__new__» ⟨[.type "zip", .ref l1, .ref l2], []⟩) (fun _ R s => s.heap.IsTuple l1 xs ∧ s.heap.IsList l2 ys ∧
      R (.ok (.ret (.ref (zipMH4 s.heap l1 l2).objs.size))) { s with heap := zipMH5 s.heap l1 l2 }) :=
  .of_wp fun prog w A R s h => by
    obtain ⟨hp, g, d, tk, os⟩ := s; obtain ⟨hl1, hl2, h⟩ := h
    have hsub := sub_zip
    have hL1 : Heap.IsTuple (Shared.heap ⟨hp, g, d, tk, os⟩) l1 xs := hl1
    have hL2 : Heap.IsList (Shared.heap ⟨hp.push { cls := .type "tuple_iterator", data := .fields #[.ref l1, .int 0 0] }, g, d, tk, os⟩) l2 ys := Heap.IsList.push hl2 _
    wp_walk using wpAny_pyIter_tuple hL1, wpAny_pyIter_list hL2
    exact ⟨_, rfl, h⟩
section
variable {prog : Program} {w : World} {A : Around} {E : Value → Shared → Prop} {s : Shared}
theorem call_zipM {l1 l2 : Addr} {xs ys : Array Value} {Q : Value → Shared → Prop} (hl1 : s.heap.IsTuple l1 xs) (hl2 : s.heap.IsList l2 ys)
    (h : ∀ h', IsZip h' (s.heap.objs.size + 4) (s.heap.objs.size + 2) (s.heap.objs.size + 3) .none → IsPair h' (s.heap.objs.size + 2) (.ref s.heap.objs.size) (.ref (s.heap.objs.size + 1)) →
      IsPair h' (s.heap.objs.size + 3) .none .none → h'.IsTupleIter s.heap.objs.size l1 0 → h'.IsListIter (s.heap.objs.size + 1) l2 0 → h'.objs.size = s.heap.objs.size + 5 →
      (∀ c o, s.heap.get? c = some o → h'.get? c = some o) → Q (.ref (s.heap.objs.size + 4)) { s with heap := h' }) :
    wpAny (model prog w) A (call (.type "zip") [.ref l1, .ref l2]) Q E s := by
  refine callType_new F.called_zip (by decide) (F.typeCall_zip_2 _ _) (F.newCall_zip_2 _ _) (fun obj => F.args_object_init_3 obj _ _) F.entry_zip_new
    (meets_zipM_new l1 l2 xs ys) ⟨hl1, hl2, ?_⟩
  have z1 : (zipMH1 s.heap l1).objs.size = s.heap.objs.size + 1 := Heap.size_push ..
  have z2 : (zipMH2 s.heap l1 l2).objs.size = s.heap.objs.size + 2 := by rw [Heap.size_push, z1]
  have z3 : (zipMH3 s.heap l1 l2).objs.size = s.heap.objs.size + 3 := by rw [Heap.size_push, z2]
  have z4 : (zipMH4 s.heap l1 l2).objs.size = s.heap.objs.size + 4 := by rw [Heap.size_push, z3]
  have z5 : (zipMH5 s.heap l1 l2).objs.size = s.heap.objs.size + 5 := by rw [Heap.size_push, z4]
  have g5 : (zipMH5 s.heap l1 l2).get? (zipMH4 s.heap l1 l2).objs.size = some _ := Heap.get?_push_size _ rfl
  have g4 : (zipMH5 s.heap l1 l2).get? (zipMH3 s.heap l1 l2).objs.size = some _ := Heap.get?_push_of_some _ (Heap.get?_push_size _ rfl)
  have g3 : (zipMH5 s.heap l1 l2).get? (zipMH2 s.heap l1 l2).objs.size = some _ := Heap.get?_push_of_some _ (Heap.get?_push_of_some _ (Heap.get?_push_size _ rfl))
  have g2 : (zipMH5 s.heap l1 l2).get? (zipMH1 s.heap l1).objs.size = some _ := Heap.get?_push_of_some _ (Heap.get?_push_of_some _ (Heap.get?_push_of_some _ (Heap.get?_push_size _ rfl)))
  have g1 : (zipMH5 s.heap l1 l2).get? s.heap.objs.size = some _ := Heap.get?_push_of_some _ (Heap.get?_push_of_some _ (Heap.get?_push_of_some _ (Heap.get?_push_of_some _ (Heap.get?_push_size _ rfl))))
  show _ ∧ _
  rw [z2, z3, z4] at g5
  rw [z1, z2] at g3
  rw [z3] at g4
  rw [z1] at g2
  rw [z4]
  exact ⟨⟨_, g5, rfl⟩, h _ g5 g3 g4 ⟨_, g1, rfl, rfl⟩ ⟨_, g2, rfl, rfl⟩ z5 fun c o x =>
    Heap.get?_push_of_some _ (Heap.get?_push_of_some _ (Heap.get?_push_of_some _ (Heap.get?_push_of_some _ (Heap.get?_push_of_some _ x))))⟩
end
def iZipB (K : PySem.W.Frag) (ta : TA) : TI := fun σ H R => ta σ H fun vs H1 => ∃ a b xs ys, vs = [.ref a, .ref b] ∧ ((SqL K H1 a xs ∧ SqL K H1 b ys ∧ R (Itz K a b) H1) ∨ (SqT K H1 a xs ∧ SqT K H1 b ys ∧ R (RZ.ItzT K a b) H1) ∨ (SqT K H1 a xs ∧ SqL K H1 b ys ∧ R (ItzM K a b) H1))
theorem pi_zipB {X : Cx} {e e2 : Expr} {ta : TA} {p pos tpos : Pos} {elts : List Expr} {kk : Nat} (hg : Gl X "zip") (hm : X.mg "zip" = none) (ha : PA X [e, e2] ta)
    (hs : starEach [e, e2] X.env = (false, eval e X.env) :: starEach [e2] X.env := by rfl) (hpl : (backTo pos (starEach [e2] X.env)).any (·.1) = false := by rfl) :
    PI X (.Tuple elts kk tpos) (.Call (.Name "zip" p) [e, e2] [] pos) (iZipB X.K ta) := by
  refine ⟨fun pins s σ H R I h => ?_⟩
  refine Call_ (ld_blt I hg hm PyProof.Rows.boot_zip (PyProof.Rows.callWith_type1 (thn (ha.run pos pins s σ H _ I h) fun us s1 ⟨vs, H1, I1, r1, q1⟩ => ?_) hs hpl))
  obtain ⟨a, b, xs, ys, ex, q1⟩ := q1
  subst ex
  cases r1 with
  | cons r rr =>
    cases rr with
    | cons r' rr =>
      cases rr
      cases r
      cases r'
      have fresh5 : ∀ c, c ∈ [s1.heap.objs.size + 4, s1.heap.objs.size + 2, s1.heap.objs.size + 3, s1.heap.objs.size, s1.heap.objs.size + 1] → FpOk X pins H1 c := fun c hcm => by
        have e' : c = s1.heap.objs.size + 4 ∨ c = s1.heap.objs.size + 2 ∨ c = s1.heap.objs.size + 3 ∨ c = s1.heap.objs.size ∨ c = s1.heap.objs.size + 1 := by simpa using hcm
        have hle : s1.heap.objs.size ≤ c := by
          rcases e' with z | z | z | z | z
          · rw [z]; exact Nat.le_add_right _ _
          · rw [z]; exact Nat.le_add_right _ _
          · rw [z]; exact Nat.le_add_right _ _
          · rw [z]; exact Nat.le_refl _
          · rw [z]; exact Nat.le_add_right _ _
        exact I1.fpOk hle (I1.hok.fresh hle)
      rcases q1 with ⟨hqx, hqy, q⟩ | ⟨hqx, hqy, q⟩ | ⟨hqx, hqy, q⟩
      · obtain ⟨its, rv, p1, _⟩ := I1.list hqx
        obtain ⟨its2, rv2, p2, _⟩ := I1.list hqy
        refine call_zip_2 p1.isList p2.isList fun h' hz hTI hTO h1 h2 hsz hk => wpAny_pyIter_zip hz ?_
        have I2 : Inv X pins σ H1 { s1 with heap := h' } := I1.kept (t' := s1.toks) hk
        exact ⟨s1.heap.objs.size + 4, [s1.heap.objs.size + 4, s1.heap.objs.size + 2, s1.heap.objs.size + 3, s1.heap.objs.size, s1.heap.objs.size + 1], _, _, H1, rfl, I2, turn_zip (PySem.W.ktu_apart s1.heap.objs.size a b p1.lt p2.lt), ⟨hz, hTI, ⟨_, _, hTO⟩, h1, h2⟩, fresh5, q⟩
      · obtain ⟨its, rv, p1, _⟩ := I1.tuple hqx
        obtain ⟨its2, rv2, p2, _⟩ := I1.tuple hqy
        obtain ⟨o1, ho1, _⟩ := id p1
        obtain ⟨o2, ho2, _⟩ := id p2
        refine RZ.call_zipT (show s1.heap.IsTuple a its.toArray from p1) (show s1.heap.IsTuple b its2.toArray from p2) fun h' hz hTI hTO h1 h2 hsz hk => wpAny_pyIter_zip hz ?_
        have I2 : Inv X pins σ H1 { s1 with heap := h' } := I1.kept (t' := s1.toks) hk
        exact ⟨s1.heap.objs.size + 4, [s1.heap.objs.size + 4, s1.heap.objs.size + 2, s1.heap.objs.size + 3, s1.heap.objs.size, s1.heap.objs.size + 1], _, _, H1, rfl, I2, RZ.turn_zipT (PySem.W.ktu_apart s1.heap.objs.size a b (Heap.lt_size ho1) (Heap.lt_size ho2)), ⟨hz, hTI, ⟨_, _, hTO⟩, h1, h2⟩, fresh5, q⟩
      · obtain ⟨its, rv, p1, _⟩ := I1.tuple hqx
        obtain ⟨its2, rv2, p2, _⟩ := I1.list hqy
        obtain ⟨o1, ho1, _⟩ := id p1
        refine call_zipM (show s1.heap.IsTuple a its.toArray from p1) p2.isList fun h' hz hTI hTO h1 h2 hsz hk => wpAny_pyIter_zip hz ?_
        have I2 : Inv X pins σ H1 { s1 with heap := h' } := I1.kept (t' := s1.toks) hk
        exact ⟨s1.heap.objs.size + 4, [s1.heap.objs.size + 4, s1.heap.objs.size + 2, s1.heap.objs.size + 3, s1.heap.objs.size, s1.heap.objs.size + 1], _, _, H1, rfl, I2, turn_zipM (PySem.W.ktu_apart s1.heap.objs.size a b (Heap.lt_size ho1) p2.lt), ⟨hz, hTI, ⟨_, _, hTO⟩, h1, h2⟩, fresh5, q⟩
section
variable {K : PySem.W.Frag}
theorem it_zipM {M0 : MM} {H0 : Hp} {xs ys : List D} {a b : Addr} {s2 : MM → Prop} (h1 : ∀ M H, Fr M0 H0 M H → RepM K M H → s2 M → ∃ vs, RepL K H xs vs ∧ SqT K H a vs) (h2 : ∀ M H, Fr M0 H0 M H → RepM K M H → s2 M → ∃ vs, RepL K H ys vs ∧ SqL K H b vs) :
    ItOk K M0 H0 (ItzM K a b) (zipD xs ys) s2 where
  go := fun i M H f m s hi => by
    obtain ⟨vs, r, hs⟩ := h1 M H f m s
    obtain ⟨ws, r2, hs2⟩ := h2 M H f m s
    rw [zipD_len, r.length, r2.length] at hi
    exact ⟨vs, ws, vs[i]'(by omega), ws[i]'(by omega), hs, hs2, List.getElem?_eq_getElem _, List.getElem?_eq_getElem _⟩
  stop := fun M H f m s => by
    obtain ⟨vs, r, hs⟩ := h1 M H f m s
    obtain ⟨ws, r2, hs2⟩ := h2 M H f m s
    rw [zipD_len, r.length, r2.length]
    exact ⟨vs, ws, hs, hs2, by omega, by omega, by omega⟩
  yld := fun i M H x H' f m s hi ⟨T, y, z, ex, hT, eH, hy, hz⟩ => by
    obtain ⟨vs, r, hs⟩ := h1 M H f m s
    obtain ⟨ws, r2, hs2⟩ := h2 M H f m s
    subst ex eH
    obtain ⟨d, hd, rd⟩ := r.getV (hy vs hs)
    obtain ⟨e, he, re⟩ := r2.getV (hz ws hs2)
    have k : KeepF H (upd H T (.tup [y, z])) := .new hT
    exact ⟨.wtp [d, e], zipD_get _ _ _ _ _ hd he, mk_wtp (.inl (.of upd_same)) (.cons (rd.keep k) (.cons (re.keep k) .nil)), .hid hT, m.hid hT⟩
end
end RX
set_option Elab.async false
set_option linter.all false
set_option maxRecDepth 100000
set_option maxHeartbeats 4000000
/-! RX8b: enumerate and zip over tuples. -/
namespace RX
open PySem PySem.Spec PyProof.Rows L2
open AutoSeq1 (wpAny_loadPart')
theorem enum_one {v : Value} {oI : Obj} {C : Heap → Prop} (B : Begins v oI C) :
    Meets (Builtin.«enumerate.__new__» ⟨[.type "enumerate", v], []⟩) (fun _ R z => C z.heap ∧
      R (.ok (.ret (.ref (z.heap.push oI).objs.size))) { z with heap := (z.heap.push oI).push { cls := .type "enumerate", data := .fields #[.none, .bool false, .ref z.heap.objs.size, rawInt 0, .none, .none] } }) :=
  .of_wp fun P w A R z c => by
    obtain ⟨hz, gz, dz, tz, oz⟩ := z
    obtain ⟨c1, c⟩ := c
    have sub := sub_enumerate
    have it1 : ∀ {A' : Around} {E Q : Value → Shared → Prop}, Q (.ref hz.objs.size) ⟨hz.push oI, gz, dz, tz, oz⟩ → wpAny (model P w) A' (pyIter v) Q E ⟨hz, gz, dz, tz, oz⟩ := fun q => B.iter P w _ _ ⟨hz, gz, dz, tz, oz⟩ _ c1 q
    wp_walk using it1
    refine wpAny_stack_any fun st => wpAny_pure ?_
    split
    · rename_i c' _ _ _ _ _
      cases (c' == Value.type "enumerate") <;> (wp_walk using it1; exact ⟨_, rfl, c⟩)
    · wp_walk using it1; exact ⟨_, rfl, c⟩
theorem call_enumA {P : Program} {w : World} {A : Around} {E : Value → Shared → Prop} {z : Shared} {v : Value} {oI : Obj} {C : Heap → Prop} {Q : Value → Shared → Prop} (B : Begins v oI C) (c1 : C z.heap)
    (q : ∀ g, IsEnum g (z.heap.objs.size + 1) z.heap.objs.size 0 .none → g.get? z.heap.objs.size = some oI → (∀ b o, z.heap.get? b = some o → g.get? b = some o) → Q (.ref (z.heap.objs.size + 1)) { z with heap := g }) :
    wpAny (model P w) A (call (.type "enumerate") [v]) Q E z := by
  refine callType_new F.called_enumerate (by decide) (F.typeCall_enumerate_1 _) (F.newCall_enumerate_1 _) (fun obj => F.args_object_init_2 obj _) F.entry_enumerate_new (enum_one B) ⟨c1, ?_⟩
  have e1 : (z.heap.push oI).objs.size = z.heap.objs.size + 1 := Heap.size_push ..
  rw [e1]
  have e2 := Heap.get?_push_size (z.heap.push oI) (o := { cls := .type "enumerate", data := .fields #[.none, .bool false, .ref z.heap.objs.size, rawInt 0, .none, .none] }) rfl
  rw [e1] at e2
  exact ⟨⟨_, e2, rfl⟩, q _ e2 (Heap.get?_push_of_some _ (Heap.get?_push_size _ B.free)) fun b o x => Heap.get?_push_of_some _ (Heap.get?_push_of_some _ x)⟩
/-- the tuple at a, each item in a new pair -/
def IteT (K : PySem.W.Frag) (a : Addr) : It :=
  ⟨fun i G => ∃ (xs : List V) (x : V), SqT K G a xs ∧ xs[i]? = some x, fun i G v G' => ∃ T x, v = .ref T ∧ G T = none ∧ G' = upd G T (.tup [.int (i : Nat), x]) ∧ ∀ xs, SqT K G a xs → xs[i]? = some x, fun i G => ∃ xs : List V, SqT K G a xs ∧ xs.length ≤ i⟩
theorem turn_enumT {P : Program} {w : World} {K : PySem.W.Frag} {elts : List Expr} {kk : Nat} {tpos : Pos} (a e it : Addr) :
    Turn P w K (.Tuple elts kk tpos) (IteT K a) [e, it] e (fun i h => (∃ old, IsEnum h e it ((i : Nat) : Int) old) ∧ h.IsTupleIter it a i ∧ e ≠ it ∧ e ≠ a ∧ a ≠ it) where
  mem := List.mem_cons_self
  obj := fun i h ⟨⟨old, he⟩, ⟨o, ho, hc, hd⟩, _⟩ b hb => by
    rcases List.mem_cons.mp hb with rfl | hb
    · exact ⟨_, he, fun v q => nomatch q⟩
    · rw [List.mem_singleton.mp hb]
      exact ⟨o, ho, fun v q => by rw [hd] at q; cases q⟩
  keep := fun i h h' ⟨⟨old, he⟩, hi, hn⟩ k => ⟨⟨old, k e (by simp) _ he⟩, hi.at fun o q => k it (by simp) o q, hn⟩
  item := by
    intro X hP hw hK hc i pins s σ H E I hf ⟨⟨old, he⟩, hit, n1, n2, n3⟩ ⟨xs, x, hq, hx⟩
    subst hP hw hK
    obtain ⟨its, rv, pt, hz⟩ := I.tuple hq
    obtain ⟨u, hu, ru⟩ := rv.get hx
    have ht : s.heap.IsTuple a its.toArray := pt
    have le : e < s.heap.objs.size := Heap.lt_size he
    have li : it < s.heap.objs.size := by obtain ⟨_, q, _⟩ := hit; exact Heap.lt_size q
    have hd : X.A.in1.handled = none := I.ok.hd hc
    have hlt : i < its.toArray.size := by
      rw [List.size_toArray]
      exact (List.getElem?_eq_some_iff.mp hu).1
    refine wpAny_pyNext_enum_itemD (Draws.tuple hd it a n3 its.toArray) he ⟨hit, ht⟩ hlt n1 (by simp [n1, n2]) fun y g tk hy ho ⟨hit', _⟩ hT hs hk => ?_
    have ey : y = u := by
      have hy' : its.toArray[i]? = some y := hy
      rw [List.getElem?_toArray, hu] at hy'
      exact (Option.some.inj hy').symm
    subst ey
    refine ⟨_, rfl, wpAny_letOwnedTupleGo_enum (s := { s with heap := g, toks := tk + 1 }) ho fun g2 he2 sb => ?_⟩
    have hT2 : g2.get? s.heap.objs.size = some { cls := .type "tuple", data := .seq #[.int i tk, y] } := (sb.2 _ (Nat.ne_of_gt le)).trans hT
    have new : ObjOk X.prog X.w (upd H s.heap.objs.size (.tup [.int (i : Nat), x])) g2 s.heap.objs.size (.tup [.int (i : Nat), x]) := ⟨show 2 ≤ sizeLine by decide, [.int i tk, y], .cons ⟨_, rfl⟩ (.cons ru .nil), _, hT2, rfl, _, rfl⟩
    have hn : H s.heap.objs.size = none := I.hok.fresh (Nat.le_refl _)
    refine ⟨.ref s.heap.objs.size, _, I.turnedNew (t' := tk + 1) (ch := [e, it]) (fun b ob hb q => (sb.2 b fun z => hb (by simp [z])).trans (hk b ob (fun z => hb (by simp [z])) (fun z => hb (by simp [z])) q)) hf (Nat.le_refl _) new, rfl, ⟨_, x, rfl, hn, rfl, fun ys hy => ?_⟩, ⟨⟨y, ?_⟩, hit'.at fun o q => (sb.2 it (Ne.symm n1)).trans q, n1, n2, n3⟩, fun b hb => ?_⟩
    · rw [I.tuple_inj hy hq]; exact hx
    · rw [show ((i + 1 : Nat) : Int) = (i : Int) + 1 by omega]; exact he2
    · have lb : b < s.heap.objs.size := by
        rcases List.mem_cons.mp hb with rfl | hb
        · exact le
        · rw [List.mem_singleton.mp hb]; exact li
      rw [upd_ne (Nat.ne_of_lt lb)]
      exact (hf b hb).1
  done := by
    intro X hP hw hK hc i pins s σ H E I hf ⟨⟨old, he⟩, hit, n1, n2, n3⟩ ⟨xs, hq, hx⟩
    subst hP hw hK
    obtain ⟨its, rv, pt, hz⟩ := I.tuple hq
    have ht : s.heap.IsTuple a its.toArray := pt
    have hd : X.A.in1.handled = none := I.ok.hd hc
    have ln := rv.length
    have no : its.toArray[i]? = none := by rw [List.getElem?_toArray]; exact List.getElem?_eq_none (by omega)
    have D : Draws X.prog X.w X.A.in1 it [it, a] i (fun _ _ => False) (fun j h => j = i ∧ h.IsTupleIter it a i ∧ h.IsTuple a its.toArray) :=
      ⟨fun _ _ st => let ⟨o, ho, _⟩ := st.2.1; ⟨o, ho⟩, fun _ _ _ st hk => ⟨st.1, st.2.1.at fun o q => hk it (by simp) o q, st.2.2.at fun o q => hk a (by simp) o q⟩, fun j z Q E' hj st _ => absurd st.1 (Nat.ne_of_lt hj), fun z Q E' st hE => wpAny_nextOf_tuple_end hd st.2.1 st.2.2 no hE⟩
    obtain ⟨f0, f1, f2, f3, f4, f5⟩ := hf it (by simp)
    exact wpAny_pyNext_enum_endD D he ⟨rfl, hit, ht⟩ fun g eb => ⟨rfl, I.turned (t' := s.toks) (fun b o hb q => eb b o hb q) f0 f1 f3 f4 f5⟩
  self := fun A i s Q E ⟨⟨_, he⟩, _⟩ h => wpAny_pyIter_enum he h
def iEnumA (K : PySem.W.Frag) (ta : TA) : TI := fun σ H R => ta σ H fun vs H1 => ∃ a xs, vs = [.ref a] ∧ ((SqL K H1 a xs ∧ R (Ite K a) H1) ∨ (SqT K H1 a xs ∧ R (IteT K a) H1))
theorem pi_enumA {X : Cx} {e : Expr} {ta : TA} {p pos tpos : Pos} {elts : List Expr} {kk : Nat} (hg : Gl X "enumerate") (hm : X.mg "enumerate" = none) (ha : PA X [e] ta) (hs : starEach [e] X.env = [(false, eval e X.env)]) :
    PI X (.Tuple elts kk tpos) (.Call (.Name "enumerate" p) [e] [] pos) (iEnumA X.K ta) := by
  refine ⟨fun pins s σ H R I h => Call_ (ld_blt I hg hm boot_enumerate (PyProof.Rows.callWith_type1 (thn (ha.run pos pins s σ H _ I h) fun us z ⟨vs, G, J, rv, a, xs, ev, c⟩ => ?_) hs rfl))⟩
  subst ev
  cases rv with
  | cons r1 rr =>
    cases rr
    cases r1
    have two : ∀ b ∈ [z.heap.objs.size + 1, z.heap.objs.size], FpOk X pins G b := fun b hb => by
      have le : z.heap.objs.size ≤ b := by
        rcases List.mem_cons.mp hb with rfl | hb
        · omega
        · rw [List.mem_singleton.mp hb]; exact Nat.le_refl _
      exact J.fpOk le (J.hok.fresh le)
    rcases c with ⟨hq, c⟩ | ⟨hq, c⟩
    · obtain ⟨its, rvs, pl, _⟩ := J.list hq
      exact call_enumerate_list pl.isList fun g h1 h2 _ hk => wpAny_pyIter_enum h1 ⟨_, _, _, _, G, rfl, J.kept (t' := z.toks) hk, turn_enum a _ _, ⟨⟨.none, h1⟩, h2, Nat.succ_ne_self _⟩, two, c⟩
    · obtain ⟨its, rvs, pt, _⟩ := J.tuple hq
      have la : a < z.heap.objs.size := by obtain ⟨_, q, _⟩ := id pt; exact Heap.lt_size q
      exact call_enumA (begins_tuple a its.toArray) pt fun g h1 h2 hk => wpAny_pyIter_enum h1 ⟨_, _, _, _, G, rfl, J.kept (t' := z.toks) hk, turn_enumT a _ _, ⟨⟨.none, h1⟩, ⟨_, h2, rfl, rfl⟩, Nat.succ_ne_self _, Nat.ne_of_gt (Nat.lt_succ_of_lt la), Nat.ne_of_lt la⟩, two, c⟩
section
variable {K : PySem.W.Frag}
theorem it_enumT {M0 : MM} {H0 : Hp} {xs : List D} {a : Addr} {stab : MM → Prop} (h : ∀ M H, Fr M0 H0 M H → RepM K M H → stab M → ∃ vs, RepL K H xs vs ∧ SqT K H a vs) : ItOk K M0 H0 (IteT K a) (pairD xs 0) stab where
  go := fun i M H f m s hi => by
    obtain ⟨vs, r, hs⟩ := h M H f m s
    rw [pairD_len, r.length] at hi
    exact ⟨vs, vs[i], hs, by simp [hi]⟩
  stop := fun M H f m s => by
    obtain ⟨vs, r, hs⟩ := h M H f m s
    rw [pairD_len, r.length]
    exact ⟨vs, hs, Nat.le_refl _⟩
  yld := fun i M H x H' f m s hi ⟨T, y, ex, hT, eH, hy⟩ => by
    obtain ⟨vs, r, hs⟩ := h M H f m s
    subst ex eH
    obtain ⟨d, hd, rd⟩ := r.getV (hy vs hs)
    have k : KeepF H (upd H T (.tup [.int (i : Nat), y])) := .new hT
    refine ⟨.wtp [.int (i : Nat), d], ?_, mk_wtp (.inl (.of upd_same)) (.cons (mk_int _) (.cons (rd.keep k) .nil)), .hid hT, m.hid hT⟩
    rw [pairD_get, hd]
    simp
theorem it_zipT {M0 : MM} {H0 : Hp} {xs ys : List D} {a b : Addr} {s1 : MM → Prop} (h1 : ∀ M H, Fr M0 H0 M H → RepM K M H → s1 M → ∃ vs, RepL K H xs vs ∧ SqT K H a vs) (h2 : ∀ M H, Fr M0 H0 M H → RepM K M H → s1 M → ∃ vs, RepL K H ys vs ∧ SqT K H b vs) :
    ItOk K M0 H0 (RZ.ItzT K a b) (zipD xs ys) s1 where
  go := fun i M H f m s hi => by
    obtain ⟨vs, r, hs⟩ := h1 M H f m s
    obtain ⟨ws, r2, hs2⟩ := h2 M H f m s
    rw [zipD_len, r.length, r2.length] at hi
    exact ⟨vs, ws, vs[i]'(by omega), ws[i]'(by omega), hs, hs2, List.getElem?_eq_getElem _, List.getElem?_eq_getElem _⟩
  stop := fun M H f m s => by
    obtain ⟨vs, r, hs⟩ := h1 M H f m s
    obtain ⟨ws, r2, hs2⟩ := h2 M H f m s
    rw [zipD_len, r.length, r2.length]
    exact ⟨vs, ws, hs, hs2, by omega⟩
  yld := fun i M H x H' f m s hi ⟨T, y, z, ex, hT, eH, hy, hz⟩ => by
    obtain ⟨vs, r, hs⟩ := h1 M H f m s
    obtain ⟨ws, r2, hs2⟩ := h2 M H f m s
    subst ex eH
    obtain ⟨d, hd, rd⟩ := r.getV (hy vs hs)
    obtain ⟨e, he, re⟩ := r2.getV (hz ws hs2)
    have k : KeepF H (upd H T (.tup [y, z])) := .new hT
    exact ⟨.wtp [d, e], zipD_get _ _ _ _ _ hd he, mk_wtp (.inl (.of upd_same)) (.cons (rd.keep k) (.cons (re.keep k) .nil)), .hid hT, m.hid hT⟩
end
section
variable {X : Cx} {B : Bs} {pos : Pos}
theorem li_enumA {e : Expr} {te : DE} {p tpos : Pos} {elts : List Expr} {kk : Nat} (hg : Gl X "enumerate") (hm : X.mg "enumerate" = none) (he : PE X e (LE X.K B te)) (hs : starEach [e] X.env = [(false, eval e X.env)]) :
    PI X (.Tuple elts kk tpos) (.Call (.Name "enumerate" p) [e] [] pos) (LI X.K B fun σ M R => te σ M fun x M1 => sqD x M1 fun xs stab => R (pairD xs 0) stab M1) := by
  refine ⟨fun pins s σ H R I ⟨σd, M, Rd, a', t, k⟩ => (pi_enumA hg hm (pa_cons he pa_nil hs) hs).run pins s σ H R I ?_⟩
  refine LE.seq a' t fun d M1 v H1 f1 a1 r1 q => ?_
  have q : sqD d M1 fun xs stab => Rd (pairD xs 0) stab M1 := q
  unfold sqD at q
  split at q
  · rename_i xs
    obtain ⟨p, vs, e, hv, rl⟩ := rep_tup r1
    exact ⟨p, vs, by rw [e], .inr ⟨hv, k _ _ M1 _ H1 f1 a1.m (it_enumT fun M' H' f m _ => ⟨vs, rl.keep (f.keep a1.m), (f.keep a1.m).sqt hv⟩) q⟩⟩
  · obtain ⟨p, xs, stab, e, ⟨vs, hv⟩, q2, h⟩ := seqD_at q r1 a1.m
    exact ⟨p, vs, by rw [e], .inl ⟨hv, k _ _ M1 _ H1 f1 a1.m (it_enum h) q2⟩⟩
theorem li_zipA {e e2 : Expr} {te tf : DE} {p tpos : Pos} {elts : List Expr} {kk : Nat} (hg : Gl X "zip") (hm : X.mg "zip" = none) (he : PE X e (LE X.K B te)) (hf : PE X e2 (LE X.K B tf)) (hs : starEach [e, e2] X.env = (false, eval e X.env) :: starEach [e2] X.env) (hs2 : starEach [e2] X.env = [(false, eval e2 X.env)]) :
    PI X (.Tuple elts kk tpos) (.Call (.Name "zip" p) [e, e2] [] pos) (LI X.K B fun σ M R => te σ M fun x M1 => tf σ M1 fun y M2 => zpD x y M2 fun xs ys stab => R (zipD xs ys) stab M2) := by
  refine ⟨fun pins s σ H R I ⟨σd, M, Rd, a', t, k⟩ => (pi_zipB hg hm (pa_cons he (pa_cons hf pa_nil hs2) hs) hs (by rw [hs2]; rfl)).run pins s σ H R I ?_⟩
  refine LE.seq a' t fun d M1 v H1 f1 a1 r1 q1 => LE.seq a1 q1 fun d2 M2 v2 H2 f2 a2 r2 q => ?_
  have q : zpD d d2 M2 fun xs ys stab => Rd (zipD xs ys) stab M2 := q
  unfold zpD at q
  split at q
  · rename_i xs ys
    obtain ⟨p1, vs, e1, hv, rl⟩ := rep_tup (a1.rep f2 r1)
    obtain ⟨p2, ws, e2, hw, rl2⟩ := rep_tup r2
    exact ⟨p1, p2, vs, ws, by rw [e1, e2], .inr (.inl ⟨hv, hw, k _ _ M2 _ H2 (f1.trans f2) a2.m (it_zipT (fun M' H' f m _ => ⟨vs, rl.keep (f.keep a2.m), (f.keep a2.m).sqt hv⟩) fun M' H' f m _ => ⟨ws, rl2.keep (f.keep a2.m), (f.keep a2.m).sqt hw⟩) q⟩)⟩
  · rename_i xs y hne
    obtain ⟨p1, vs, e1, hv, rl⟩ := rep_tup (a1.rep f2 r1)
    obtain ⟨p2, ys, s2, e2, ⟨ws, hw⟩, q3, h2⟩ := seqD_at q r2 a2.m
    exact ⟨p1, p2, vs, ws, by rw [e1, e2], .inr (.inr ⟨hv, hw, k _ _ M2 _ H2 (f1.trans f2) a2.m (it_zipM (fun M' H' f m _ => ⟨vs, rl.keep (f.keep a2.m), (f.keep a2.m).sqt hv⟩) h2) q3⟩)⟩
  · obtain ⟨p, xs, s1, e, ⟨vs, hv⟩, q2, h⟩ := seqD_at q (a1.rep f2 r1) a2.m
    obtain ⟨p2, ys, s2, e2, ⟨ws, hw⟩, q3, h2⟩ := seqD_at q2 r2 a2.m
    exact ⟨p, p2, vs, ws, by rw [e, e2], .inl ⟨hv, hw, k _ _ M2 _ H2 (f1.trans f2) a2.m (it_zip h h2) q3⟩⟩
end
end RX
set_option Elab.async false
set_option linter.all false
set_option maxRecDepth 100000
set_option maxHeartbeats 4000000
/-! RX9: stores into lists and dicts, comprehensions, statements. -/
namespace RX
open PySem PySem.Spec PyProof.Rows L2

/-! ### what an expression is not -/
def nSl : Expr → Bool
  | .Slice .. => false
  | _ => true
def nSt : Expr → Bool
  | .Starred .. => false
  | _ => true
def nStL : List Expr → Bool
  | [] => true
  | e :: es => nSt e && nStL es
def nBase : Expr → Bool
  | .Call .. => false
  | _ => true
def plT : Expr → Bool
  | .UnaryOp .. => false
  | .BoolOp .. => false
  | .IfExp .. => false
  | .Compare .. => false
  | _ => true
def nComp : Expr → Bool
  | .ListComp .. => false
  | .SetComp .. => false
  | .DictComp .. => false
  | _ => true
def nTup : Expr → Bool
  | .Tuple .. => false
  | _ => true
def nSet : Expr → Bool
  | .Set .. => false
  | _ => true
section
variable {env : Env}
theorem plainIx_of {b : Expr} (h : nSl b = true) : PlainIx b := by
  intro o i
  cases b <;> first | rfl | cases h
theorem star_cons {e : Expr} {es : List Expr} (h : nSt e = true) : starEach (e :: es) env = (false, eval e env) :: starEach es env := by
  cases e <;> first | rfl | cases h
theorem star_any : ∀ {es : List Expr}, nStL es = true → (starEach es env).any (·.1) = false
  | [], _ => rfl
  | e :: es, h => by
    have h' : nSt e = true ∧ nStL es = true := by simpa [nStL] using h
    rw [star_cons h'.1]
    show (false || (starEach es env).any (·.1)) = false
    rw [star_any h'.2]; rfl
theorem base_of {o : Expr} {m : Str} (h : nBase o = true) : attributeBase o m env (eval o env) = eval o env := by
  cases o <;> first | rfl | cases h
theorem true_of {e : Expr} (h : plT e = true) : ∀ whole, isTrue e env whole = (do let v ← whole; standAt e.pos; holding [v] (truthy v)) := by
  intro whole
  cases e <;> first | rfl | cases h
theorem sw_of {e : Expr} {t : Option Expr} {l : Nat} (h : nComp e = true) : swapsWith e t l env = pure false := by
  cases e <;> first | rfl | cases h
theorem sw_attr {e o : Expr} {f : Str} {p : Pos} {l : Nat} : swapsWith e (some (.Attribute o f p)) l env = pure false := by
  cases e <;> rfl
theorem sw_cell {e : Expr} {x : Str} {p : Pos} {l : Nat} (h : env.scope.names.lookup x ≠ some .local) : swapsWith e (some (.Name x p)) l env = pure false := by
  have hk : (env.kindOf x == some .local) = false := beq_eq_false_iff_ne.mpr h
  cases e <;> first
    | rfl
    | (unfold swapsWith
       simp only [hk, Bool.and_false, Bool.false_and]
       done)
    | (unfold swapsWith
       simp only [hk, Bool.and_false, Bool.false_and]
       rfl)
theorem sws_of {e t : Expr} {l : Nat} (h : nComp e = true) : swapsWithSole [t] e l env = pure false := by
  show swapsWith e (some t) l env = pure false
  exact sw_of h
theorem stores_of {e t : Expr} (h : nTup e = true) : swappedStores [t] e env = pure none := by
  unfold swappedStores
  cases e <;> first | (cases t <;> rfl) | cases h
theorem fold_of {e : Expr} (h : nSet e = true) : ∀ x, foldedSetIterable e env x = pure x := by
  intro x
  cases e <;> first | rfl | cases h
theorem mark_of {o : CmpOp} {e : Expr} (h : nSet e = true) : behindInMarks o e = false := by
  cases e <;> first | rfl | cases h
theorem marks_of {o o' : CmpOp} {e e' : Expr} (h : nSet e' = true) : lastMarks [o, o'] [e, e'] = false := by
  show behindInMarks o' e' = false
  exact mark_of h
theorem asg_each {e : Expr} {es : List Expr} (h : nSt e = true) : assignEach (e :: es) env = (false, assign e env) :: assignEach es env := by
  cases e <;> first | rfl | cases h
theorem asg_len : ∀ {es : List Expr}, (assignEach es env).length = es.length
  | [] => rfl
  | e :: es => by
    cases hs : nSt e with
    | true => rw [asg_each hs, List.length_cons, List.length_cons, asg_len]
    | false =>
      cases e <;> first | cases hs | skip
      rw [show ∀ t p, assignEach (.Starred t p :: es) env = (true, assign t env) :: assignEach es env from fun _ _ => rfl, List.length_cons, List.length_cons, asg_len]
theorem asg_star : ∀ {es : List Expr}, nStL es = true → (assignEach es env).findIdx? (·.1) = none
  | [], _ => rfl
  | e :: es, h => by
    have h' : nSt e = true ∧ nStL es = true := by simpa [nStL] using h
    rw [asg_each h'.1, List.findIdx?_cons, asg_star h'.2]
    rfl
end
theorem putK_zip {k : Key} {d : D} {v : V} {K : PySem.W.Frag} {H : Hp} (rv : Rep K H d v) : ∀ {ks : List Key} {ds : List D} {vs : List V}, ks.length = vs.length → RepL K H ds vs →
    ∃ ws, putK (ks.zip vs) k v = (putKD ks ds k d).1.zip ws ∧ (putKD ks ds k d).1.length = ws.length ∧ RepL K H (putKD ks ds k d).2 ws := by
  intro ks ds vs hl r
  have hany : ((ks.zip vs).any fun kv => decide (kv.1 = k)) = hasK ks k := by
    unfold hasK
    induction ks generalizing vs ds with
    | nil => simp
    | cons k' ks ih =>
      cases vs with
      | nil => simp at hl
      | cons v' vs =>
        cases ds with
        | nil => have := r.nil_inv; cases this
        | cons d' ds =>
          obtain ⟨_, _, e, _, r2⟩ := r.cons_inv
          cases e
          simp only [List.zip_cons_cons, List.any_cons]
          rw [ih (by simpa using hl) r2]
  unfold putK putKD
  rw [hany]
  cases hk : hasK ks k with
  | true =>
    rw [if_pos rfl, if_pos rfl]
    refine ⟨List.zipWith (fun k' v' => if k' = k then v else v') ks vs, ?_, ?_, ?_⟩
    · clear hany hk
      induction ks generalizing vs ds with
      | nil => simp
      | cons k' ks ih =>
        cases vs with
        | nil => simp at hl
        | cons v' vs =>
          cases ds with
          | nil => have := r.nil_inv; cases this
          | cons d' ds =>
            obtain ⟨_, _, e, _, r2⟩ := r.cons_inv
            cases e
            simp only [List.zip_cons_cons, List.map_cons, List.zipWith_cons_cons]
            rw [ih (by simpa using hl) r2]
            congr 1
            split <;> rfl
    · rw [List.length_zipWith, ← hl, Nat.min_self]
    · clear hany hk
      induction ks generalizing vs ds with
      | nil => simp; exact .nil
      | cons k' ks ih =>
        cases vs with
        | nil => simp at hl
        | cons v' vs =>
          cases ds with
          | nil => have := r.nil_inv; cases this
          | cons d' ds =>
            obtain ⟨_, _, e, r1, r2⟩ := r.cons_inv
            cases e
            simp only [List.zipWith_cons_cons]
            refine .cons ?_ (ih (by simpa using hl) r2)
            split
            · exact rv
            · exact r1
  | false =>
    rw [if_neg Bool.false_ne_true, if_neg Bool.false_ne_true]
    refine ⟨vs ++ [v], ?_, by simp [hl], r.append (.cons rv .nil)⟩
    rw [List.zip_append hl]
    rfl
theorem pset_or {X : Cx} {a b : TSet} (ha : PSet X a) (hb : PSet X b) : PSet X (fun o i v H Q => a o i v H Q ∨ b o i v H Q) := by
  intro pins s σ H o i v ov iv u Q I r1 r2 r3 h
  rcases h with h | h
  · exact ha pins s σ H o i v ov iv u Q I r1 r2 r3 h
  · exact hb pins s σ H o i v ov iv u Q I r1 r2 r3 h
section
variable {X : Cx} {B : Bs} {pos : Pos}
theorem lg_sub {o i : Expr} {to ti : DE} (hns : nSl i = true) (hu : X.A.units + 1 < cLine) (ho : PE X o (LE X.K B to)) (hi : PE X i (LE X.K B ti)) : PG X (.Subscript o i pos) (LGw X.K B [] fun d σ M Q => to σ M fun x M1 => ti σ M1 fun y M2 => subD x y d σ M2 Q) := by
  refine (pg_sub ho hi (pset_or set_list (set_dict hu)) (by intro v; cases i <;> first | rfl | cases hns)).imp fun v σ H Q ⟨d, σd, M, Qd, r, a, q, k⟩ => ?_
  refine LE.seq a q fun d1 M1 v1 H1 f1 a1 r1 q1 => LE.seq a1 q1 fun d2 M2 v2 H2 f2 a2 r2 q2 => ?_
  have rd : Rep X.K H2 d v := a1.rep f2 (a.rep f1 r)
  have f : Fr M H M2 H2 := f1.trans f2
  have q3 : subD d1 d2 d σd M2 Qd := q2
  clear q2
  unfold subD at q3
  split at q3
  · rename_i p k'
    obtain ⟨xs, j, e, hj, q3⟩ := q3
    obtain ⟨vs, hs, rl⟩ := a2.m _ _ e
    have k2 : KeepF H2 (upd H2 p (.lst (vs.set j v))) := .mut (a2.m.mut e)
    refine .inl ⟨p, vs, k', j, rep_ref r1, rep_int r2, hs, by rw [← rl.length]; exact hj, ?_⟩
    exact k σd _ σ _ .refl (f.trans (.put e)) (a2.s.keep k2) (a2.m.put (d := .lst (xs.set j d)) e ⟨_, upd_same, (rl.set j rd).keep k2⟩) q3
  · rename_i p k'
    obtain ⟨ks, ds, e, hz, q3⟩ := q3
    obtain ⟨vs, hs, hl, rl⟩ := a2.m _ _ e
    obtain ⟨ws, e2, hl2, rl2⟩ := putK_zip (k := .inr k') rd hl rl
    have k2 : KeepF H2 (upd H2 p (.dK ((putKD ks ds (.inr k') d).1.zip ws))) := .mut (a2.m.mut e)
    have hz2 : (ks.zip vs).length < sizeLine := by rw [List.length_zip, ← hl, Nat.min_self]; exact hz
    refine .inr ⟨p, _, rep_ref r1, .inl ⟨_, .inr k', hs, rep_str r2, hz2, rfl⟩, ?_⟩
    rw [e2]
    exact k σd _ σ _ .refl (f.trans (.put e)) (a2.s.keep k2) (a2.m.put (d := .dct (putKD ks ds (.inr k') d).1 (putKD ks ds (.inr k') d).2) e ⟨ws, upd_same, hl2, rl2.keep k2⟩) q3
  · exact q3.elim
end
end RX
set_option Elab.async false
set_option linter.all false
set_option maxRecDepth 100000
set_option maxHeartbeats 4000000
/-! RX10: comprehensions and statements. -/
namespace RX
open PySem PySem.Spec PyProof.Rows L2

theorem drop_cases {xs : List D} {i : Nat} : (i < xs.length ∧ ∃ x, xs[i]? = some x ∧ xs.drop i = x :: xs.drop (i + 1)) ∨ (xs.length ≤ i ∧ xs.drop i = []) := by
  by_cases h : i < xs.length
  · exact .inl ⟨h, xs[i], List.getElem?_eq_getElem h, (List.drop_eq_getElem_cons h)⟩
  · exact .inr ⟨by omega, List.drop_eq_nil_of_le (by omega)⟩
section
variable {K : PySem.W.Frag} {B : Bs}
/-- a hidden thing grows -/
theorem hid_upd {M0 M : MM} {H0 H : Hp} {p : Addr} {u u' : HO} (f : Fr M0 H0 M H) (m : RepM K M H) (h0 : H0 p = none) (hM : M p = none) (hu : H p = some u) (mu : Mut (some u)) :
    Fr M0 H0 M (upd H p u') ∧ RepM K M (upd H p u') ∧ KeepF H (upd H p u') := by
  have k : KeepF H (upd H p u') := .mut (.inl (by rw [hu]; exact mu))
  refine ⟨fun a v e hm => ?_, fun a o e => ?_, k⟩
  · have ne : a ≠ p := fun z => by rw [z, h0] at e; cases e
    obtain ⟨h1, h2⟩ := f a v e hm
    exact ⟨by rw [upd_ne ne]; exact h1, h2⟩
  · have ne : a ≠ p := fun z => by rw [z, hM] at e; cases e
    exact (m a o e).keep k (upd_ne ne)
/-- the end of a list comprehension -/
def LcEnd (K : PySem.W.Frag) (M : MM) (H : Hp) (Qn : List D → MM → Prop) : VK := fun v H' => ∃ p vs acc M', v = .ref p ∧ (∀ u, H p = some u → M p = none → False) ∧ H' p = some (.lst vs) ∧ M' p = none ∧ Fr M H M' H' ∧ RepM K M' H' ∧ RepL K H' acc vs ∧ Qn acc M'
theorem lc_wish {tI : DI} {g : DG} {tt : DT} {te : DE} {vs ws : List Nat} {σ : SV} {H : Hp} {σd : DSt} {M : MM} {Qn : List D → MM → Prop} (hw : ∀ i ∈ ws, i ∈ vs) (a : At K B H σd M σ)
    (t : tI σd M fun xs stab M1 => lcD stab g tt te vs σd Qn xs [] M1) : tLc (LI K B tI) (LGw K B ws g) (LT K B tt) (LE K B te) vs σ H (LcEnd K M H Qn) := by
  refine ⟨σd, M, _, a, t, fun xs stab M1 J H1 f1 m1 ok r => fun p hp => ?_⟩
  have m1p : M1 p = none := m1.free hp
  refine ⟨fun i m Hc => ∃ Mc acc us, m = xs.length - i ∧ i ≤ xs.length ∧ Fr M1 H1 Mc Hc ∧ Mc p = none ∧ Hc p = some (.lst us) ∧ RepL K Hc acc us ∧ RepM K Mc Hc ∧ lcD stab g tt te vs σd Qn (xs.drop i) acc Mc,
    ⟨xs.length, M1, [], [], by simp, Nat.zero_le _, .hid hp, m1p, upd_same, .nil, m1.hid hp, r⟩, ?_⟩
  rintro i m Hc ⟨Mc, acc, us, rfl, hi, fc, pc, hc, rc, mc, q⟩
  rcases drop_cases (xs := xs) (i := i) with ⟨hlt, x, hx, ed⟩ | ⟨hge, ed⟩
  · rw [ed] at q
    unfold lcD at q
    obtain ⟨hst, hz, q⟩ := q
    refine .inr ⟨ok.go i Mc Hc fc mc hst hlt, fun Hn => ∃ Mn acc us, i + 1 ≤ xs.length ∧ Fr M1 H1 Mn Hn ∧ Mn p = none ∧ Hn p = some (.lst us) ∧ RepL K Hn acc us ∧ RepM K Mn Hn ∧ lcD stab g tt te vs σd Qn (xs.drop (i + 1)) acc Mn,
      fun Hn ⟨Mn, ac, us', h1, h2⟩ => ⟨xs.length - (i + 1), by omega, Mn, ac, us', rfl, h1, h2⟩, fun xv H' y => ?_⟩
    obtain ⟨d, hd, rd, f', m'⟩ := ok.yld i Mc Hc xv H' fc mc hst hlt y
    rw [hx] at hd
    cases hd
    have p1 := f' p _ hc pc
    have F1 : Fr M H Mc H' := (f1.trans fc).trans f'
    refine ⟨x, wipeD σd vs, Mc, _, rd, ⟨a.b.trans F1, (a.s.keep (F1.keep a.m)).wipe vs, m'⟩, q, fun σ2d M2 σ2 H2 sm f2 s2 m2 q2 => ⟨sm.wipe hw, ?_⟩⟩
    have p2 := f2 p _ p1.1 p1.2
    have F2 := F1.trans f2
    refine LT.seq (B := B) ⟨a.b.trans F2, s2, m2⟩ q2 fun b M3 H3 f3 a3 q3 => ?_
    have p3 := f3 p _ p2.1 p2.2
    have F3 := F2.trans f3
    cases b with
    | true =>
      rw [if_pos rfl]
      refine LE.seq a3 (q3.1 rfl) fun dy M4 v4 H4 f4 a4 r4 q4 => ?_
      have p4 := f4 p _ p3.1 p3.2
      have G : Fr M1 H1 M4 H4 := (((fc.trans f').trans f2).trans f3).trans f4
      obtain ⟨g1, g2, g3⟩ := hid_upd (u' := .lst (us ++ [v4])) G a4.m hp p4.2 p4.1 trivial
      have kc : KeepF Hc H4 := (((f'.trans f2).trans f3).trans f4).keep mc
      refine ⟨us, p4.1, by rw [← rc.length]; exact hz, M4, acc ++ [dy], us ++ [v4], hlt, g1, p4.2, upd_same, ((rc.keep kc).append (.cons r4 .nil)).keep g3, g2, q4⟩
    | false =>
      rw [if_neg Bool.false_ne_true]
      have G : Fr M1 H1 M3 H3 := ((fc.trans f').trans f2).trans f3
      exact ⟨M3, acc, us, hlt, G, p3.2, p3.1, rc.keep (((f'.trans f2).trans f3).keep mc), a3.m, q3.2 rfl⟩
  · have e : i = xs.length := by omega
    subst e
    rw [ed] at q
    unfold lcD at q
    obtain ⟨hst, q⟩ := q
    have h0 : ∀ u, H p = some u → M p = none → False := fun u e e2 => by
      have z := (f1 p u e e2).1
      rw [hp] at z
      cases z
    exact .inl ⟨ok.stop Mc Hc fc mc hst, p, us, acc, Mc, rfl, h0, hc, pc, f1.trans fc, mc, rc, q⟩
/-- from there: a list that may be written, or not -/
theorem lc_done0 {X : Cx} {pins : List (Addr × Obj)} {σ : SV} {M : MM} {H H' : Hp} {fz : Bool} {Qd : DV} {v : V} {s' : Shared} (I : Inv X pins σ H' s') (h : LcEnd X.K M H (fun acc M2 => newL fz acc M2 Qd) v H') : ∃ d M' H'', Inv X pins σ H'' s' ∧ Fr M H M' H'' ∧ Rep X.K H'' d v ∧ RepM X.K M' H'' ∧ Qd d M' := by
  obtain ⟨p, vs, acc, M', e, h0, hp, mp, f, m, r, q⟩ := h
  subst e
  cases fz with
  | false =>
    refine ⟨.ref p, up M' p (.lst acc), H', I, fun a u e e2 => ?_, mk_ref p, fun a o e => ?_, q p mp⟩
    · have ne : a ≠ p := fun z => h0 u (by rw [← z]; exact e) (by rw [← z]; exact e2)
      obtain ⟨h1, h2⟩ := f a u e e2
      exact ⟨h1, by rw [up_ne ne]; exact h2⟩
    · by_cases z : a = p
      · subst z; rw [up_same] at e; cases e; exact ⟨vs, hp, r⟩
      · rw [up_ne z] at e; exact m a o e
  | true =>
    obtain ⟨o, I'⟩ := freeze I hp (fun _ _ _ z => nomatch z) trivial
    have k : KeepF H' (upd H' p (.frz o (.lst vs))) := .mut (.inl (by rw [hp]; trivial))
    refine ⟨.lst acc, M', _, I', fun a u e e2 => ?_, mk_lst (.inl ⟨o, upd_same⟩) (r.keep k), fun a o' e => ?_, q⟩
    · have ne : a ≠ p := fun z => h0 u (by rw [← z]; exact e) (by rw [← z]; exact e2)
      obtain ⟨h1, h2⟩ := f a u e e2
      exact ⟨by rw [upd_ne ne]; exact h1, h2⟩
    · have ne : a ≠ p := fun z => by rw [z, mp] at e; cases e
      exact (m a o' e).keep k (upd_ne ne)
theorem lc_done {X : Cx} {pins : List (Addr × Obj)} {σ : SV} {M : MM} {H H' : Hp} {fz : Bool} {Qd : DV} {v : V} {u : Value} {s' : Shared} (I : Inv X pins σ H' s') (rv : RelV v u) (h : LcEnd X.K M H (fun acc M2 => newL fz acc M2 Qd) v H') : EPD X pins σ M H Qd u s' := by
  obtain ⟨d, M', H'', I', f, r, m, q⟩ := lc_done0 I h
  exact ⟨d, M', v, H'', I', rv, f, r, m, q⟩
/-- {k: v for ..} -/
def DcEnd (K : PySem.W.Frag) (M : MM) (H : Hp) (Qn : List Key → List D → MM → Prop) : VK := fun v H' => ∃ p vs ks acc M', v = .ref p ∧ (∀ u, H p = some u → M p = none → False) ∧ H' p = some (.dK (ks.zip vs)) ∧ ks.length = vs.length ∧ M' p = none ∧ Fr M H M' H' ∧ RepM K M' H' ∧ RepL K H' acc vs ∧ Qn ks acc M'
theorem dc_wish {tI : DI} {g : DG} {tk te : DE} {vs ws : List Nat} {σ : SV} {H : Hp} {σd : DSt} {M : MM} {Qn : List Key → List D → MM → Prop} (hw : ∀ i ∈ ws, i ∈ vs) (a : At K B H σd M σ)
    (t : tI σd M fun xs stab M1 => dcD stab g tk te vs σd Qn xs [] [] M1) : tDc (LI K B tI) (LGw K B ws g) tYes (LE K B tk) (LE K B te) vs σ H (DcEnd K M H Qn) := by
  refine ⟨σd, M, _, a, t, fun xs stab M1 J H1 f1 m1 ok r => fun p hp => ?_⟩
  have m1p : M1 p = none := m1.free hp
  refine ⟨fun i m Hc => ∃ Mc ks acc us, m = xs.length - i ∧ i ≤ xs.length ∧ Fr M1 H1 Mc Hc ∧ Mc p = none ∧ Hc p = some (.dK (ks.zip us)) ∧ ks.length = us.length ∧ RepL K Hc acc us ∧ RepM K Mc Hc ∧ dcD stab g tk te vs σd Qn (xs.drop i) ks acc Mc,
    ⟨xs.length, M1, [], [], [], by simp, Nat.zero_le _, .hid hp, m1p, upd_same, rfl, .nil, m1.hid hp, r⟩, ?_⟩
  rintro i m Hc ⟨Mc, ks, acc, us, rfl, hi, fc, pc, hc, hl, rc, mc, q⟩
  rcases drop_cases (xs := xs) (i := i) with ⟨hlt, x, hx, ed⟩ | ⟨hge, ed⟩
  · rw [ed] at q
    unfold dcD at q
    obtain ⟨hst, hz, q⟩ := q
    refine .inr ⟨ok.go i Mc Hc fc mc hst hlt, fun Hn => ∃ Mn ks acc us, i + 1 ≤ xs.length ∧ Fr M1 H1 Mn Hn ∧ Mn p = none ∧ Hn p = some (.dK (ks.zip us)) ∧ ks.length = us.length ∧ RepL K Hn acc us ∧ RepM K Mn Hn ∧ dcD stab g tk te vs σd Qn (xs.drop (i + 1)) ks acc Mn,
      fun Hn ⟨Mn, ks', ac, us', h1, h2⟩ => ⟨xs.length - (i + 1), by omega, Mn, ks', ac, us', rfl, h1, h2⟩, fun xv H' y => ?_⟩
    obtain ⟨d, hd, rd, f', m'⟩ := ok.yld i Mc Hc xv H' fc mc hst hlt y
    rw [hx] at hd
    cases hd
    have p1 := f' p _ hc pc
    have F1 : Fr M H Mc H' := (f1.trans fc).trans f'
    refine ⟨x, wipeD σd vs, Mc, _, rd, ⟨a.b.trans F1, (a.s.keep (F1.keep a.m)).wipe vs, m'⟩, q, fun σ2d M2 σ2 H2 sm f2 s2 m2 q2 => ⟨sm.wipe hw, ?_⟩⟩
    have p2 := f2 p _ p1.1 p1.2
    have F2 := F1.trans f2
    unfold tYes
    dsimp only
    rw [if_pos rfl]
    have a2 : At K B H2 σ2d M2 σ2 := ⟨a.b.trans F2, s2, m2⟩
    refine LE.seq a2 q2 fun dk M3 v3 H3 f3 a3 r3 ⟨key, hk, q3⟩ => ?_
    have p3 := f3 p _ p2.1 p2.2
    refine LE.seq a3 q3 fun dy M4 v4 H4 f4 a4 r4 q4 => ?_
    have p4 := f4 p _ p3.1 p3.2
    have G : Fr M1 H1 M4 H4 := (((fc.trans f').trans f2).trans f3).trans f4
    have kc : KeepF Hc H4 := (((f'.trans f2).trans f3).trans f4).keep mc
    obtain ⟨ws', e1, e2, e3⟩ := putK_zip (k := key) r4 hl (rc.keep kc)
    obtain ⟨g1, g2, g3⟩ := hid_upd (u' := .dK ((putKD ks acc key dy).1.zip ws')) G a4.m hp p4.2 p4.1 trivial
    have hz2 : (ks.zip us).length < sizeLine := by rw [List.length_zip, ← hl, Nat.min_self]; exact hz
    refine ⟨ks.zip us, key, keyOf_rep hk r3, p4.1, hz2, ?_⟩
    rw [e1]
    exact ⟨M4, _, _, ws', hlt, g1, p4.2, upd_same, e2, e3.keep g3, g2, q4⟩
  · have e : i = xs.length := by omega
    subst e
    rw [ed] at q
    unfold dcD at q
    obtain ⟨hst, q⟩ := q
    have h0 : ∀ u, H p = some u → M p = none → False := fun u e e2 => by
      have z := (f1 p u e e2).1
      rw [hp] at z
      cases z
    exact .inl ⟨ok.stop Mc Hc fc mc hst, p, us, ks, acc, Mc, rfl, h0, hc, hl, pc, f1.trans fc, mc, rc, q⟩
theorem dc_done {X : Cx} {pins : List (Addr × Obj)} {σ : SV} {M : MM} {H H' : Hp} {fz : Bool} {Qd : DV} {v : V} {u : Value} {s' : Shared} (I : Inv X pins σ H' s') (rv : RelV v u) (h : DcEnd X.K M H (fun ks acc M2 => newD fz ks acc M2 Qd) v H') : EPD X pins σ M H Qd u s' := by
  obtain ⟨p, vs, ks, acc, M', e, h0, hp, hl, mp, f, m, r, q⟩ := h
  subst e
  cases fz with
  | false =>
    refine ⟨.ref p, up M' p (.dct ks acc), .ref p, H', I, rv, fun a u e e2 => ?_, mk_ref p, fun a o e => ?_, q p mp⟩
    · have ne : a ≠ p := fun z => h0 u (by rw [← z]; exact e) (by rw [← z]; exact e2)
      obtain ⟨h1, h2⟩ := f a u e e2
      exact ⟨h1, by rw [up_ne ne]; exact h2⟩
    · by_cases z : a = p
      · subst z; rw [up_same] at e; cases e; exact ⟨vs, hp, hl, r⟩
      · rw [up_ne z] at e; exact m a o e
  | true =>
    obtain ⟨o, I'⟩ := freeze I hp (fun _ _ _ z => nomatch z) trivial
    have k : KeepF H' (upd H' p (.frz o (.dK (ks.zip vs)))) := .mut (.inl (by rw [hp]; trivial))
    refine ⟨.dct ks acc, M', .ref p, _, I', rv, fun a u e e2 => ?_, mk_dct upd_same hl (r.keep k), fun a o' e => ?_, q⟩
    · have ne : a ≠ p := fun z => h0 u (by rw [← z]; exact e) (by rw [← z]; exact e2)
      obtain ⟨h1, h2⟩ := f a u e e2
      exact ⟨by rw [upd_ne ne]; exact h1, h2⟩
    · have ne : a ≠ p := fun z => by rw [z, mp] at e; cases e
      exact (m a o' e).keep k (upd_ne ne)
end
section
variable {X : Cx} {B : Bs} {pos : Pos}
/-- every context of the block -/
def AllBlk (X : Cx) (scope : Scope) (P : Cx → Prop) : Prop := ∀ (s : Shared) (H : Hp) (C : Addr) (cl : List (Str × Addr)) (fp : List Addr), P (X.blk s H scope (compEnvC scope cl C X.env) fp)
theorem le_lc {fz : Bool} {elt tg iter : Expr} {ifs : List Expr} {scope : Scope} {own : List (Str × Nat)} {tI : DI} {g : DG} {tt : DT} {te : DE} {ws : List Nat} (hc : X.calm = true) (hN : X.N.Nodup) (hi : PI X tg iter (LI X.K B tI)) (ok : BlkOk X.N X.env.scope scope own)
    (hw : ∀ i ∈ ws, i ∈ own.map (·.2)) (hg : AllBlk X scope fun Y => PG Y tg (LGw Y.K B ws g)) (ht : AllBlk X scope fun Y => PTs Y ifs (LT Y.K B tt)) (he : AllBlk X scope fun Y => PE Y elt (LE Y.K B te)) (hs : ∀ x, foldedSetIterable iter X.env x = pure x) :
    PE X (.ListComp elt [⟨tg, iter, ifs, 0⟩] scope pos) (LE X.K B fun σ M Q => tI σ M fun xs stab M1 => lcD stab g tt te (own.map (·.2)) σ (fun acc M2 => newL fz acc M2 Q) xs [] M1) := by
  refine pe_of fun pins s σ H σd M Qd I a t => ?_
  exact thn ((pe_lc (g := LGw X.K B ws g) (tt := LT X.K B tt) (te := LE X.K B te) hc hN hi ok (fun s H C cl fp => hg s H C cl fp) (fun s H C cl fp => ht s H C cl fp) (fun s H C cl fp => he s H C cl fp) hs).run pins s σ H _ I (lc_wish hw a t)) fun u s' ⟨v, H', I', rv, q⟩ => lc_done I' rv q
theorem le_dc {fz : Bool} {kx elt tg iter : Expr} {scope : Scope} {own : List (Str × Nat)} {tI : DI} {g : DG} {tk te : DE} {ws : List Nat} (hc : X.calm = true) (hN : X.N.Nodup) (hi : PI X tg iter (LI X.K B tI)) (ok : BlkOk X.N X.env.scope scope own)
    (hw : ∀ i ∈ ws, i ∈ own.map (·.2)) (hg : AllBlk X scope fun Y => PG Y tg (LGw Y.K B ws g)) (hk : AllBlk X scope fun Y => PE Y kx (LE Y.K B tk)) (he : AllBlk X scope fun Y => PE Y elt (LE Y.K B te)) (hs : ∀ x, foldedSetIterable iter X.env x = pure x) :
    PE X (.DictComp kx elt [⟨tg, iter, [], 0⟩] scope pos) (LE X.K B fun σ M Q => tI σ M fun xs stab M1 => dcD stab g tk te (own.map (·.2)) σ (fun ks acc M2 => newD fz ks acc M2 Q) xs [] [] M1) := by
  refine pe_of fun pins s σ H σd M Qd I a t => ?_
  exact thn ((pe_dc (g := LGw X.K B ws g) (tt := tYes) (tk := LE X.K B tk) (tv := LE X.K B te) hc hN hi ok (fun s H C cl fp => hg s H C cl fp) (fun s H C cl fp => pts_nil) (fun s H C cl fp => hk s H C cl fp) (fun s H C cl fp => he s H C cl fp) hs).run pins s σ H _ I (dc_wish hw a t)) fun u s' ⟨v, H', I', rv, q⟩ => dc_done I' rv q
/-- name = [..] on one line -/
theorem ls_setLc {fz : Bool} {i : Nat} {y : Str} {py : Pos} {elt tg iter : Expr} {ifs : List Expr} {scope : Scope} {own : List (Str × Nat)} {spos : Pos} {tI : DI} {g : DG} {tt : DT} {te : DE} {ws : List Nat} (hc : X.calm = true) (hN : X.N.Nodup) (hy : X.N[i]? = some y) (hyl : X.env.scope.names.lookup y = some .local)
    (hsw : swapsWith (.ListComp elt [⟨tg, iter, ifs, 0⟩] scope pos) (some (.Name y py)) spos.line X.env = pure true) (hi : PI X tg iter (LI X.K B tI)) (ok : BlkOk X.N X.env.scope scope own)
    (hw : ∀ i ∈ ws, i ∈ own.map (·.2)) (hg : AllBlk X scope fun Y => PG Y tg (LGw Y.K B ws g)) (ht : AllBlk X scope fun Y => PTs Y ifs (LT Y.K B tt)) (he : AllBlk X scope fun Y => PE Y elt (LE Y.K B te)) (hs : ∀ x, foldedSetIterable iter X.env x = pure x) :
    PS X (.Assign [.Name y py] (.ListComp elt [⟨tg, iter, ifs, 0⟩] scope pos) spos) (LS X.K B fun E σ M => tI σ M fun xs stab M1 => lcD stab g tt te (own.map (·.2)) σ (fun acc M2 => newL fz acc M2 fun d M3 => E.nx (σ.set i (some d)) M3) xs [] M1) := by
  refine ⟨fun pins s σ H E I ⟨σd, M, Dd, a, t, k⟩ => ?_⟩
  have h := (ps_setLc (g := LGw X.K B ws g) (tt := LT X.K B tt) (te := LE X.K B te) hc hN hy hyl hsw hi ok (fun s H C cl fp => hg s H C cl fp) (fun s H C cl fp => ht s H C cl fp) (fun s H C cl fp => he s H C cl fp) hs).run pins s σ H
    { nx := fun σ' H' => ∃ v, σ' = σ.set i (some v) ∧ LcEnd X.K M H (fun acc M2 => newL fz acc M2 fun d M3 => Dd.nx (σd.set i (some d)) M3) v H', rt := fun _ _ => False, bk := fun _ _ => False, ct := fun _ _ => False } I
  have key : ∀ {Q Q' : VK}, (∀ v H', Q v H' → Q' v H') → tLc (LI X.K B tI) (LGw X.K B ws g) (LT X.K B tt) (LE X.K B te) (own.map (·.2)) σ H Q → tLc (LI X.K B tI) (LGw X.K B ws g) (LT X.K B tt) (LE X.K B te) (own.map (·.2)) σ H Q' := by
    intro Q Q' hQ ⟨σd, M, Rd, a, t, k⟩
    refine ⟨σd, M, Rd, a, t, fun xs stab M' J H' f m o r p hp => ?_⟩
    obtain ⟨W, w0, turn⟩ := k xs stab M' J H' f m o r p hp
    refine ⟨W, w0, fun i m H w => ?_⟩
    rcases turn i m H w with ⟨h1, h2⟩ | h2
    · exact .inl ⟨h1, hQ _ _ h2⟩
    · exact .inr h2
  refine thn (h (key (fun v H' q => ⟨v, rfl, q⟩) (lc_wish hw a t))) fun f s' hq => ?_
  cases f with
  | next =>
    obtain ⟨σ', H', I', v, e, q⟩ := hq
    subst e
    obtain ⟨d, M', H'', I2, f2, r2, m2, q2⟩ := lc_done0 I' q
    exact ⟨_, H'', I2, k.nx _ _ _ _ f2 ((a.s.keep (f2.keep a.m)).set i (show RelD X.K H'' (some d) (some v) from r2)) m2 q2⟩
  | ret v =>
    obtain ⟨_, _, _, _, _, q⟩ := hq
    exact q.elim
  | brk =>
    obtain ⟨_, _, _, q⟩ := hq
    exact q.elim
  | cont =>
    obtain ⟨_, _, _, q⟩ := hq
    exact q.elim
/-! ### statements -/
theorem SPD {pins : List (Addr × Obj)} {D D' : Ends} {f : Flow} {s' : Shared} (h : SP X pins D f s') (nx : ∀ σ H, Inv X pins σ H s' → D.nx σ H → ∃ σ' H', Inv X pins σ' H' s' ∧ D'.nx σ' H') (rt : D.rt = D'.rt) (bk : D.bk = D'.bk) (ct : D.ct = D'.ct) : SP X pins D' f s' := by
  cases f with
  | next =>
    obtain ⟨σ', H', I', q⟩ := h
    exact nx σ' H' I' q
  | ret v =>
    obtain ⟨x, σ', H', I', r, q⟩ := h
    exact ⟨x, σ', H', I', r, rt ▸ q⟩
  | brk =>
    obtain ⟨σ', H', I', q⟩ := h
    exact ⟨σ', H', I', bk ▸ q⟩
  | cont =>
    obtain ⟨σ', H', I', q⟩ := h
    exact ⟨σ', H', I', ct ▸ q⟩
theorem ls_expr {e : Expr} {te : DE} (he : PE X e (LE X.K B te)) (hs : nComp e = true) : PS X (.Expr e pos) (LS X.K B fun E σ M => te σ M fun _ M1 => E.nx σ M1) :=
  (ps_expr he (sw_of hs)).imp fun E σ H ⟨σd, M, Dd, a, t, k⟩ => LE.seq a t fun d M1 v H1 f1 a1 r1 q => k.nx _ _ _ _ f1 a1.s a1.m q
theorem ls_ret {e : Expr} {te : DE} (he : PE X e (LE X.K B te)) : PS X (.Return (some e) pos) (LS X.K B fun E σ M => te σ M E.rt) :=
  (ps_ret he).imp fun E σ H ⟨σd, M, Dd, a, t, k⟩ => LE.seq a t fun d M1 v H1 f1 a1 r1 q => k.rt _ _ _ _ f1 r1 a1.m q
theorem ls_retN : PS X (.Return none pos) (LS X.K B fun E σ M => E.rt .non M) :=
  ps_retN.imp fun E σ H ⟨σd, M, Dd, a, t, k⟩ => k.rt _ M _ H .refl mk_non a.m t
theorem ls_pass : PS X (.Pass pos) (LS X.K B fun E σ M => E.nx σ M) := ps_pass.imp fun E σ H ⟨σd, M, Dd, a, t, k⟩ => k.nx _ M _ H .refl a.s a.m t
theorem ls_brk : PS X (.Break pos) (LS X.K B fun E σ M => E.bk σ M) := ps_break.imp fun E σ H ⟨σd, M, Dd, a, t, k⟩ => k.bk _ M _ H .refl a.s a.m t
theorem ls_cont : PS X (.Continue pos) (LS X.K B fun E σ M => E.ct σ M) := ps_continue.imp fun E σ H ⟨σd, M, Dd, a, t, k⟩ => k.ct _ M _ H .refl a.s a.m t
theorem ls_never {st : Stmt} : PS X st (LS X.K B fun _ _ _ => False) := ps_never.imp fun E σ H ⟨σd, M, Dd, a, t, k⟩ => t
theorem ls_if {c : Expr} {a b : List Stmt} {tc : DT} {ta tb : DS} (hc : PT X c (LT X.K B tc)) (ha : PSs X a (LS X.K B ta)) (hb : PSs X b (LS X.K B tb)) : PS X (.If c a b pos) (LS X.K B fun E σ M => tc σ M fun k M1 => Bif k (ta E σ M1) (tb E σ M1)) :=
  (ps_if hc ha hb).imp fun E σ H ⟨σd, M, Dd, a, t, k⟩ => LT.seq a t fun b M1 H1 f1 a1 q => by
    cases b with
    | true => rw [if_pos rfl]; exact ⟨σd, M1, Dd, a1, q.1 rfl, k.go f1⟩
    | false => rw [if_neg Bool.false_ne_true]; exact ⟨σd, M1, Dd, a1, q.2 rfl, k.go f1⟩
theorem lss_nil : PSs X [] (LS X.K B fun E σ M => E.nx σ M) := pss_nil.imp fun E σ H ⟨σd, M, Dd, a, t, k⟩ => k.nx _ M _ H .refl a.s a.m t
theorem lss_cons {st : Stmt} {rest : List Stmt} {t u : DS} (h1 : PS X st (LS X.K B t)) (h2 : PSs X rest (LS X.K B u)) : PSs X (st :: rest) (LS X.K B fun E σ M => t { E with nx := u E } σ M) :=
  (pss_cons h1 h2).imp fun E σ H ⟨σd, M, Dd, a, t, k⟩ => ⟨σd, M, { Dd with nx := u Dd }, a, t, ⟨fun σd' M' σ' H' f s m q => ⟨σd', M', Dd, ⟨a.b.trans f, s, m⟩, q, k.go f⟩, k.rt, k.bk, k.ct⟩⟩
theorem ls_asg {tg e : Expr} {te : DE} {g : DG} {ws : List Nat} (he : PE X e (LE X.K B te)) (hg : PG X tg (LGw X.K B ws g)) (hs : swapsWithSole [tg] e pos.line X.env = pure false) (hw : swappedStores [tg] e X.env = pure none) (h1 : nSt tg = true) : PS X (.Assign [tg] e pos) (LS X.K B fun E σ M => te σ M fun x M1 => g x σ M1 E.nx) :=
  (ps_asg he hg hs hw (by rw [asg_each h1]; rfl)).imp fun E σ H ⟨σd, M, Dd, a, t, k⟩ => LE.seq a t fun d M1 v H1 f1 a1 r1 q =>
    ⟨d, σd, M1, _, r1, a1, q, fun σd' M' σ' H' _ f2 s2 m2 q2 => k.nx _ _ _ _ (f1.trans f2) s2 m2 q2⟩
theorem ls_set {i : Nat} {x : Str} {e : Expr} {te : DE} {pos' : Pos} (h : PS X (.Assign [.Name x pos'] e pos) (tAsg (LE X.K B te) (gName i))) : PS X (.Assign [.Name x pos'] e pos) (LS X.K B fun E σ M => te σ M fun x M1 => E.nx (σ.set i (some x)) M1) :=
  h.imp fun E σ H ⟨σd, M, Dd, a, t, k⟩ => LE.seq a t fun d M1 v H1 f1 a1 r1 q => k.nx _ _ _ _ f1 (a1.s.set i (show RelD X.K H1 (some d) (some v) from r1)) a1.m q
theorem ls_par {i j : Nat} {x y : Str} {a b : Expr} {ta : DA} {px py pt pt2 : Pos} {kt k2} (h : PS X (.Assign [.Tuple [.Name x px, .Name y py] kt pt] (.Tuple [a, b] k2 pt2) pos) (tPar i j (LA X.K B ta))) :
    PS X (.Assign [.Tuple [.Name x px, .Name y py] kt pt] (.Tuple [a, b] k2 pt2) pos) (LS X.K B fun E σ M => ta σ M fun ds M1 => ∃ d e, ds = [d, e] ∧ E.nx ((σ.set i (some d)).set j (some e)) M1) :=
  h.imp fun E σ H ⟨σd, M, Dd, a, t, k⟩ => ⟨σd, M, _, a, t, fun ds M1 vs H1 f1 r1 m1 ⟨d, e, ed, q⟩ => by
    subst ed
    obtain ⟨v, w, ev, r2, r3⟩ := repL2 r1
    exact ⟨v, w, ev, k.nx _ _ _ _ f1 (((a.s.keep (f1.keep a.m)).set i (show RelD X.K H1 (some d) (some v) from r2)).set j (show RelD X.K H1 (some e) (some w) from r3)) m1 q⟩⟩
/-- o.f = value -/
theorem putF_zip {f : Str} {d : D} {v : V} {K : PySem.W.Frag} {H : Hp} (rv : Rep K H d v) : ∀ {ks : List Str} {ds : List D} {vs : List V}, ks.length = vs.length → RepL K H ds vs →
    ∃ ws, putF f v (ks.zip vs) = (putFD ks ds f d).1.zip ws ∧ (putFD ks ds f d).1.length = ws.length ∧ RepL K H (putFD ks ds f d).2 ws
  | [], ds, vs, hl, r => by
    cases vs with
    | nil => exact ⟨[v], rfl, rfl, .cons rv .nil⟩
    | cons => simp at hl
  | k :: ks, ds, [], hl, _ => by simp at hl
  | k :: ks, [], v' :: vs, hl, r => by have := r.nil_inv; cases this
  | k :: ks, d' :: ds, v' :: vs, hl, r => by
    obtain ⟨_, _, e, r1, r2⟩ := r.cons_inv
    cases e
    unfold putFD
    show ∃ ws, putF f v ((k, v') :: ks.zip vs) = _ ∧ _
    unfold putF
    by_cases hk : k = f
    · rw [if_pos hk, if_pos hk]
      exact ⟨v :: vs, rfl, hl, .cons rv r2⟩
    · rw [if_neg hk, if_neg hk]
      obtain ⟨ws, h1, h2, h3⟩ := putF_zip (f := f) rv (ks := ks) (by simpa using hl) r2
      refine ⟨v' :: ws, ?_, by rw [List.length_cons, List.length_cons, h2], .cons r1 h3⟩
      rw [h1]
      rfl
theorem ls_fld {o e : Expr} {f : Str} {pos' : Pos} {to te : DE} {fl : Str → Str → Bool} (hf : ∀ C, fl C f = true → Cls X.K (He.ga X.K C) ∧ NoAttr X.K (He.ga X.K C) f) (ho : PE X o (LE X.K B to)) (he : PE X e (LE X.K B te)) :
    PS X (.Assign [.Attribute o f pos'] e pos) (LS X.K B fun E σ M => te σ M fun y M1 => to σ M1 fun x M2 => ∃ p C ks vs, x = .ref p ∧ M2 p = some (.ins C ks vs) ∧ fl C f = true ∧ ks.length < 1000 ∧ E.nx σ (up M2 p (.ins C (putFD ks vs f y).1 (putFD ks vs f y).2))) :=
  (ps_fld ho he sw_attr).imp fun E σ H ⟨σd, M, Dd, a, t, k⟩ => LE.seq a t fun d M1 v H1 f1 a1 r1 q1 => LE.seq a1 q1 fun d2 M2 v2 H2 f2 a2 r2 ⟨p, C, ks, ds, e1, e2, e3, hz, q⟩ => by
    subst e1
    obtain ⟨dx, vs, hs, hl, rl⟩ := a2.m _ _ e2
    obtain ⟨c, n⟩ := hf C e3
    have rd : Rep X.K H2 d v := a1.rep f2 r1
    obtain ⟨ws, h1, h2, h3⟩ := putF_zip (f := f) rd hl rl
    have k2 : KeepF H2 (upd H2 p (.ins (He.ga X.K C) dx ((putFD ks ds f d).1.zip ws))) := .mut (a2.m.mut e2)
    refine ⟨p, _, dx, _, rep_ref r2, hs, c, n, by rw [List.length_zip, ← hl, Nat.min_self]; exact hz, ?_⟩
    rw [h1]
    exact k.nx _ _ _ _ ((f1.trans f2).trans (.put e2)) (a2.s.keep k2) (a2.m.put (d := .ins C (putFD ks ds f d).1 (putFD ks ds f d).2) e2 ⟨dx, ws, upd_same, h2, h3.keep k2⟩) q
/-! loops -/
theorem ls_while {c : Expr} {body : List Stmt} {tc : DT} {tb : DS} (hp : PassesOwn (model X.prog X.w) X.A X.env X.xe) (hc : PT X c (LT X.K B tc)) (hb : PSs X body (LS X.K B tb)) : PS X (.While c body [] pos) (LS X.K B fun E σ M => ∃ n, whD tc tb E n σ M) := by
  refine (ps_while hp hc hb).imp fun E σ H ⟨σd, M, Dd, a, ⟨n, t⟩, k⟩ => ?_
  refine ⟨fun m σ' H' => ∃ σd' M', Fr M H M' H' ∧ At X.K B H' σd' M' σ' ∧ whD tc tb Dd m σd' M', ⟨n, σd, M, .refl, a, t⟩, ?_⟩
  rintro m σ1 H1 ⟨σd1, M1, f1, a1, q⟩
  cases m with
  | zero => exact q.elim
  | succ m =>
    refine LT.seq a1 q fun b M2 H2 f2 a2 q2 => ?_
    cases b with
    | true =>
      rw [if_pos rfl]
      refine ⟨fun σ' H' => ∃ σd' M', Fr M H M' H' ∧ At X.K B H' σd' M' σ' ∧ whD tc tb Dd m σd' M', fun σ' H' h => ⟨m, Nat.lt_succ_self m, h⟩, σd1, M2, _, a2, q2.1 rfl, ?_⟩
      have F := f1.trans f2
      exact ⟨fun σd' M' σ' H' f s m q => ⟨σd', M', F.trans f, ⟨a2.b.trans f, s, m⟩, q⟩, fun d M' v H' f => k.rt d M' v H' (F.trans f), fun σd' M' σ' H' f => k.nx σd' M' σ' H' (F.trans f),
        fun σd' M' σ' H' f s m q => ⟨σd', M', F.trans f, ⟨a2.b.trans f, s, m⟩, q⟩⟩
    | false =>
      rw [if_neg Bool.false_ne_true]
      exact k.nx _ _ _ _ (f1.trans f2) a2.s a2.m (q2.2 rfl)
theorem ls_for {tg iter : Expr} {body : List Stmt} {tI : DI} {g : DG} {tb : DS} {ws : List Nat} (hp : PassesOwn (model X.prog X.w) X.A X.env X.xe) (hc : X.calm = true) (hi : PI X tg iter (LI X.K B tI)) (hg : PG X tg (LGw X.K B ws g)) (hb : PSs X body (LS X.K B tb)) (hs : ∀ x, foldedSetIterable iter X.env x = pure x) :
    PS X (.For tg iter body [] pos) (LS X.K B fun E σ M => tI σ M fun xs stab M1 => forD stab g tb E xs σ M1) := by
  refine (ps_for hp hc hi hg hb hs).imp fun E σ H ⟨σd, M, Dd, a, t, k⟩ => ?_
  refine ⟨σd, M, _, a, t, fun xs stab M1 J H1 f1 m1 ok r => ?_⟩
  refine ⟨fun i m σ' H' => ∃ σd' M', m = xs.length - i ∧ i ≤ xs.length ∧ Fr M1 H1 M' H' ∧ At X.K B H' σd' M' σ' ∧ forD stab g tb Dd (xs.drop i) σd' M', ⟨xs.length, σd, M1, by simp, Nat.zero_le _, .refl, a.go f1 m1, r⟩, ?_⟩
  rintro i m σ1 Hc ⟨σd1, Mc, rfl, hi, fc, ac, q⟩
  rcases drop_cases (xs := xs) (i := i) with ⟨hlt, x, hx, ed⟩ | ⟨hge, ed⟩
  · rw [ed] at q
    unfold forD at q
    obtain ⟨hst, q⟩ := q
    refine .inr ⟨ok.go i Mc Hc fc ac.m hst hlt, fun σ' H' => ∃ σd' M', i + 1 ≤ xs.length ∧ Fr M1 H1 M' H' ∧ At X.K B H' σd' M' σ' ∧ forD stab g tb Dd (xs.drop (i + 1)) σd' M', fun σ' H' ⟨σd', M', h⟩ => ⟨xs.length - (i + 1), by omega, σd', M', rfl, h⟩, fun xv H' y => ?_⟩
    obtain ⟨d, hd, rd, f', m'⟩ := ok.yld i Mc Hc xv H' fc ac.m hst hlt y
    rw [hx] at hd
    cases hd
    have F1 : Fr M H Mc H' := (f1.trans fc).trans f'
    refine ⟨x, σd1, Mc, _, rd, ac.go f' m', q, fun σd2 M2 σ2 H2 _ f2 s2 m2 q2 => ⟨σd2, M2, _, ⟨(ac.b.trans f').trans f2, s2, m2⟩, q2, ?_⟩⟩
    have F2 := F1.trans f2
    have G2 := (fc.trans f').trans f2
    have b2 := (ac.b.trans f').trans f2
    exact ⟨fun σd' M' σ' H' f s m q => ⟨σd', M', hlt, G2.trans f, ⟨b2.trans f, s, m⟩, q⟩, fun d M' v H' f => k.rt d M' v H' (F2.trans f), fun σd' M' σ' H' f => k.nx σd' M' σ' H' (F2.trans f),
      fun σd' M' σ' H' f s m q => ⟨σd', M', hlt, G2.trans f, ⟨b2.trans f, s, m⟩, q⟩⟩
  · have e : i = xs.length := by omega
    subst e
    rw [ed] at q
    exact .inl ⟨ok.stop Mc Hc fc ac.m q.1, k.nx _ _ _ _ (f1.trans fc) ac.s ac.m q.2⟩
end
end RX
set_option Elab.async false
set_option linter.all false
set_option maxRecDepth 100000
set_option maxHeartbeats 4000000
/-! RX10b: dicts whose keys are tuples; more of dicts whose keys are texts. -/
namespace RX
open PySem PySem.Spec PyProof.Rows L2
section
variable {X : Cx} {pins : List (Addr × Obj)} {s : Shared} {σ : SV} {H : Hp} {M : MM} {Qd : DV} {K : PySem.W.Frag} {B : Bs} {pos : Pos}
/-! ### a tuple as a key -/
mutual
theorem nk_kN : ∀ {d : D} {k : NestedKey}, nkOf d = some k → kN k = d
  | .non, k, h => by unfold nkOf at h; cases h; rfl
  | .int i, k, h => by unfold nkOf at h; cases h; rfl
  | .str x, k, h => by unfold nkOf at h; cases h; rfl
  | .tup ds, k, h => by
    unfold nkOf at h
    split at h
    · rename_i ks e
      cases h
      unfold kN
      rw [nks_kN e]
    · cases h
  | .bl _, k, h => by unfold nkOf at h; cases h
  | .lst _, k, h => by unfold nkOf at h; cases h
  | .dct _ _, k, h => by unfold nkOf at h; cases h
  | .ref _, k, h => by unfold nkOf at h; cases h
  | .ty _, k, h => by unfold nkOf at h; cases h
  | .wtp _, k, h => by unfold nkOf at h; cases h
  | .exc _ _ _, k, h => by unfold nkOf at h; cases h
  | .exn _, k, h => by unfold nkOf at h; cases h
theorem nks_kN : ∀ {ds : List D} {ks : List NestedKey}, nkOfs ds = some ks → kNs ks = ds
  | [], ks, h => by unfold nkOfs at h; cases h; rfl
  | d :: ds, ks, h => by
    unfold nkOfs at h
    split at h
    · rename_i k kr e1 e2
      cases h
      unfold kNs
      rw [nk_kN e1, nks_kN e2]
    · cases h
end
mutual
theorem nk_is (I : Inv X pins σ H s) : ∀ {k : NestedKey} {v : V} {u : Value}, Rep X.K H (kN k) v → RelV v u → NestedIs s.heap k u
  | .none, v, u, r, rv => by
    have e := rep_non r
    subst e
    cases rv
    exact .none
  | .num i, v, u, r, rv => by
    have e := rep_int r
    subst e
    obtain ⟨t, rfl⟩ := rv
    exact .int i t
  | .text x, v, u, r, rv => by
    have e := rep_str r
    subst e
    obtain ⟨t, rfl⟩ := rv
    exact .text x t
  | .tup ks, v, u, r, rv => by
    obtain ⟨a, vs, e, ht, r2⟩ := rep_tupS (ds := kNs ks) r
    subst e
    obtain rfl : u = .ref a := rv
    rcases ht with ⟨o, ho, _⟩ | ⟨o, its, n, hk, hcl, _, hdat, _, rv⟩
    · obtain ⟨h1, z, its, rv, o', h2, h3, n, h4⟩ := I.hok a _ ho
      exact .tup h2 h3 h4 (by simpa using nks_is I r2 rv)
    · exact .tup (I.kIn a o hk) hcl hdat (nks_is I r2 rv)
theorem nks_is (I : Inv X pins σ H s) : ∀ {ks : List NestedKey} {vs : List V} {us : List Value}, RepL X.K H (kNs ks) vs → Vals vs us → NestedAll s.heap ks us
  | [], vs, us, r, rv => by
    have e := RepL.nil_inv r
    subst e
    cases rv
    exact .nil
  | k :: ks, vs, us, r, rv => by
    obtain ⟨v, vr, e, h1, h2⟩ := RepL.cons_inv (d := kN k) (ds := kNs ks) r
    subst e
    cases rv with
    | cons a b => exact .cons (nk_is I h1 a) (nks_is I h2 b)
end
theorem tk_is {d : D} {k : NestedKey} {v : V} {u : Value} (I : Inv X pins σ H s) (t : tkOf d k) (r : Rep X.K H d v) (rv : RelV v u) : ∃ a, u = .ref a ∧ (nestedKind X.prog X.w).is s.heap k a ∧ Rep X.K H (kN k) (.ref a) := by
  obtain ⟨⟨ds, rfl⟩, h1, h2⟩ := t
  have e := nk_kN h1
  obtain ⟨a, vs, ev, _, _⟩ := rep_tup r
  subst ev
  obtain rfl : u = .ref a := rv
  rw [← e] at r
  exact ⟨a, rfl, ⟨nk_is I r rfl, h2⟩, r⟩
/-! ### the dict -/
theorem dn_at {p : Addr} {kds : List (NestedKey × D)} (I : Inv X pins σ H s) (m : RepM X.K M H) (e : M p = some (.dn X.w kds)) : ∃ xs, H p = some (dnO X.w p xs) ∧ Paired (DnR X.K H) kds xs ∧ (p == sysModules) = false ∧ xs.length ≤ sizeLine ∧ s.heap.DictOfH (nestedKind X.prog X.w) p xs := by
  obtain ⟨xs, h1, h2⟩ := m _ _ e
  obtain ⟨⟨hp, hz, o, es, ep, g1, g2, g3, g4, g5⟩, _⟩ := I.hok p _ h1
  have all : ∀ {as : List (NestedKey × D)} {bs : List (NestedKey × Addr × Value)}, Paired (DnR X.K H) as bs → ∀ x ∈ bs, (nestedKind X.prog X.w).is s.heap x.1 x.2.1 := by
    intro as bs h
    induction h with
    | nil => intro x hx; cases hx
    | @cons a b as bs h t ih =>
      intro x hx
      rcases List.mem_cons.mp hx with z | hx
      · subst z
        exact ⟨nk_is I h.2.2.1 rfl, by rw [← h.1]; exact h.2.1⟩
      · exact ih x hx
  exact ⟨xs, h1, h2, hp, hz, o, es, ep, g1, g2, g3, g4, all h2, g5⟩
theorem valN_at {k : NestedKey} {kds : List (NestedKey × D)} {xs : List (NestedKey × Addr × Value)} (hh : Paired (DnR K H) kds xs) : (match valN kds k with
    | some d => ∃ a v u, atKey xs k = some (a, u) ∧ RelV v u ∧ Rep K H d v
    | none => atKey xs k = none) := by
  induction hh with
  | nil => simp [valN, atKey]
  | @cons p x ps xs h t ih =>
    obtain ⟨h1, h2, h2', v, h3, h4⟩ := h
    by_cases hk : p.1 = k
    · have hx : x.1 = k := h1.symm.trans hk
      have e1 : valN (p :: ps) k = some p.2 := by simp [valN, List.find?_cons, hk]
      have e2 : atKey (x :: xs) k = some x.2 := by simp [atKey, List.find?_cons, hx]
      rw [e1]
      exact ⟨x.2.1, v, x.2.2, e2, h3, h4⟩
    · have hx : ¬ x.1 = k := fun e => hk (h1.trans e)
      have e1 : valN (p :: ps) k = valN ps k := by simp [valN, List.find?_cons, hk]
      have e2 : atKey (x :: xs) k = atKey xs k := by simp [atKey, List.find?_cons, hx]
      rw [e1, e2]
      exact ih
theorem dn_len : ∀ {kds : List (NestedKey × D)} {xs : List (NestedKey × Addr × Value)}, Paired (DnR K H) kds xs → kds.length = xs.length := fun h => Paired.length h
theorem valN_some {kds : List (NestedKey × D)} {xs : List (NestedKey × Addr × Value)} {k : NestedKey} (h : Paired (DnR K H) kds xs) : (atKey xs k).isSome = (valN kds k).isSome := by
  have z := valN_at (k := k) h
  cases e : valN kds k with
  | none => rw [e] at z; rw [z]; rfl
  | some d => rw [e] at z; obtain ⟨a, v, u, z, _⟩ := z; rw [z]; rfl
theorem putN_at {kds : List (NestedKey × D)} {xs : List (NestedKey × Addr × Value)} {k : NestedKey} {d : D} {a : Addr} {v : V} {u : Value} (hd : k.depth ≤ 8) (h : Paired (DnR K H) kds xs) (rk : Rep K H (kN k) (.ref a)) (rv : RelV v u) (r : Rep K H d v) :
    Paired (DnR K H) (putN kds k d) (storedH xs k a u) := by
  unfold putN storedH
  rw [valN_some h]
  have upd : ∀ {as : List (NestedKey × D)} {bs : List (NestedKey × Addr × Value)}, Paired (DnR K H) as bs → Paired (DnR K H) (as.map fun p => if p.1 = k then (p.1, d) else p) (bs.map (putAt k u)) := by
    intro as bs h
    induction h with
    | nil => exact .nil
    | @cons p x ps xs h t ih =>
      refine .cons ?_ ih
      obtain ⟨h1, h1', h2, h3⟩ := h
      unfold putAt
      by_cases hk : p.1 = k
      · have hk2 : x.1 = k := h1.symm.trans hk
        show DnR K H (if p.1 = k then (p.1, d) else p) _
        rw [if_pos hk, if_pos hk2]
        exact ⟨h1, h1', h2, v, rv, r⟩
      · show DnR K H (if p.1 = k then (p.1, d) else p) _
        rw [if_neg hk, if_neg fun e => hk (h1.trans e)]
        exact ⟨h1, h1', h2, h3⟩
  have app : ∀ {as : List (NestedKey × D)} {bs : List (NestedKey × Addr × Value)}, Paired (DnR K H) as bs → Paired (DnR K H) (as ++ [(k, d)]) (bs ++ [(k, a, u)]) := by
    intro as bs h
    induction h with
    | nil => exact .cons ⟨rfl, hd, rk, v, rv, r⟩ .nil
    | cons h _ ih => exact .cons h ih
  split
  · exact upd h
  · exact app h
theorem dn_put {p : Addr} {kds : List (NestedKey × D)} {xs : List (NestedKey × Addr × Value)} {h' : Heap} {t' : Nat} (I : Inv X pins σ H s) (m : RepM X.K M H) {kds0 : List (NestedKey × D)} (e : M p = some (.dn X.w kds0)) (hp : (p == sysModules) = false) (hz : xs.length ≤ sizeLine)
    (h : Paired (DnR X.K H) kds xs) (dd : h'.DictOfH (nestedKind X.prog X.w) p xs) (sb : Heap.SameBut p s.heap h') : ∃ H', Inv X pins σ H' { s with heap := h', toks := t' } ∧ Fr M H (up M p (.dn X.w kds)) H' ∧ RepM X.K (up M p (.dn X.w kds)) H' ∧ KeepF H H' := by
  obtain ⟨o, es, ep, g1, g2, g3, g4, _, g5⟩ := dd
  have mu : Mut (H p) := by obtain ⟨_, q, _⟩ := m p _ e; rw [q]; trivial
  have kf : KeepF H (upd H p (dnO X.w p xs)) := .mut (.inl mu)
  refine ⟨upd H p (dnO X.w p xs), d_write I mu sb ⟨o, g1⟩ ⟨⟨hp, hz, o, es, ep, g1, g2, g3, g4, g5⟩, ⟨o, g1⟩, fun h1 h2 ⟨q1, q2, o', es', ep', q3, q4, q5, q6, q7⟩ k => ⟨q1, q2, o', es', ep', k o' q3, q4, q5, q6, q7⟩⟩, .put e, m.put (d := .dn X.w kds) e ⟨xs, upd_same, L2.Paired.mapP h fun _ _ r => r.keep kf⟩, kf⟩
theorem dn_in (neg : Bool) (hu : X.A.units + 65 < cLine) : OpD X (compareOp (if neg then .NotIn else .In)) (fun x y M Q => rdNin X.w x y M fun c M' => Q (.bl (if neg then !c else c)) M') := by
  intro pins s σ H x y v u dx dy M Qd I rx ry hx hy m h
  obtain ⟨p, kds, nk, e1, e2, tk, q⟩ := h
  subst e1
  cases rep_ref hy
  obtain rfl : u = .ref p := ry
  obtain ⟨a, rfl, hk, _⟩ := tk_is I tk hx rx
  obtain ⟨xs, h1, h2, hp, hz, dd⟩ := dn_at I m e2
  have hr : (nestedKind X.prog X.w).room X.A.in1 := by show X.A.units + 1 + 8 < cLine; omega
  have dk : s.heap.DictKeyed (nestedKind X.prog X.w) p (pairsH xs) := ⟨xs, dd, rfl⟩
  have ev : (valueAt (pairsH xs) nk).isSome = (valN kds nk).isSome := by rw [valueAt_pairsH, Option.isSome_map]; exact valN_some h2
  cases neg with
  | false =>
    rw [if_neg Bool.false_ne_true] at q ⊢
    refine in_keyed hr hk hp dk ?_
    rw [ev]
    exact fin_ (v := .bl _) (I.tok _) rfl m (mk_bl _) q
  | true =>
    rw [if_pos rfl] at q ⊢
    refine notIn_keyed hr hk hp dk ?_
    rw [ev]
    exact fin_ (v := .bl _) (I.tok _) rfl m (mk_bl _) q
theorem dn_typ {p : Addr} {xs : List (NestedKey × Addr × Value)} (dd : s.heap.DictOfH (nestedKind X.prog X.w) p xs) : s.TypeIs (.ref p) "dict" := dd.typeIs
theorem dn_ix (hu : X.A.units + 65 < cLine) : IxD X (rdNix X.w) := by
  intro value slice pins s σ H x y v u dx dy M Qd I rx ry hx hy m h hsub
  obtain ⟨p, kds, nk, d, e1, e2, tk, ed, q⟩ := h
  subst e1
  cases rep_ref hx
  obtain rfl : v = .ref p := rx
  obtain ⟨a, rfl, hk, _⟩ := tk_is I tk hy ry
  obtain ⟨xs, h1, h2, hp, hz, dd⟩ := dn_at I m e2
  have hr : (nestedKind X.prog X.w).room X.A.in1 := by show X.A.units + 1 + 8 < cLine; omega
  have z := valN_at (k := nk) h2
  rw [ed] at z
  obtain ⟨b, w, uu, z1, z2, z3⟩ := z
  exact tail_any dd.typeIs PySem.F.slot_dict_getitem.lookup (wpAny_getItem_heap hr hk dd z1 (fin_ (I.tok _) z2 m z3 q)) hsub
theorem cn_len : CallD X (.builtin "len") (fun ds M Q => match ds with | [d] => rdNlen X.w d M Q | _ => False) := by
  refine d1 (rd := fun d M Q => rdNlen X.w d M Q) ?_
  intro pins s σ H x u d M Qd I rx r m h
  obtain ⟨p, kds, e1, e2, q⟩ := h
  subst e1
  cases rep_ref r
  obtain rfl : u = .ref p := rx
  obtain ⟨xs, h1, h2, hp, hz, dd⟩ := dn_at I m e2
  have hl : kds.length = xs.length := dn_len h2
  refine call_len_dictH hp dd (by rw [sizeLine_eq] at hz; omega) ?_
  rw [← hl]
  exact fin_ (v := .int kds.length) (I.tok _) ⟨_, rfl⟩ m (mk_int _) q
theorem dn_keysV : ∀ {kds : List (NestedKey × D)} {xs : List (NestedKey × Addr × Value)}, Paired (DnR K H) kds xs → RepL K H (kds.map fun e => kN e.1) (xs.map fun x => V.ref x.2.1) := fun h => by
  induction h with
  | nil => exact .nil
  | @cons p x ps xs h t ih =>
    refine .cons ?_ ih
    show Rep K H (kN p.1) (.ref x.2.1)
    rw [h.1]
    exact h.2.2.1
theorem cn_list (hc : X.calm = true) {fz : Bool} : CallD X (.type "list") (fun ds M Q => match ds with | [d] => rdNlist X.w fz d M Q | _ => False) := by
  refine d1 (rd := fun d M Q => rdNlist X.w fz d M Q) ?_
  intro pins s σ H x u d M Qd I rx r m h
  obtain ⟨p, kds, e1, e2, q⟩ := h
  subst e1
  cases rep_ref r
  obtain rfl : u = .ref p := rx
  obtain ⟨xs, h1, h2, hp, hz, o, es, ep, g1, g2, g3, g4, _, g5⟩ := dn_at I m e2
  have l1 : es.size = xs.length := by rw [← Array.length_toList, g4, List.length_map]
  refine PySem.W.kdl_call (kdl_raw hp g2 g3) (I.ok.hd hc) g1 (by omega) fun h' tk acc' c' kp e it => ?_
  have ea : acc'.toList = xs.map fun x => Value.ref x.2.1 := by
    have hl : acc'.toList.length = xs.length := by rw [Array.length_toList, it.1]; exact l1
    refine List.ext_getElem? fun j => ?_
    rw [List.getElem?_map]
    rcases Nat.lt_or_ge j xs.length with hj | hj
    · have hj2 : j < acc'.toList.length := by omega
      rw [List.getElem?_eq_getElem hj2, List.getElem?_eq_getElem hj]
      obtain ⟨en, hen, hv⟩ := it.2 j acc'.toList[j] (by rw [← Array.getElem?_toList, List.getElem?_eq_getElem hj2])
      have q2 : es.toList[j]? = some en := by rw [Array.getElem?_toList]; exact hen
      rw [g4, List.getElem?_map, List.getElem?_eq_getElem hj] at q2
      have e3 := Option.some.inj q2
      rw [hv, ← e3]
      rfl
    · rw [List.getElem?_eq_none hj, List.getElem?_eq_none (by omega)]
      rfl
  have rv : Vals (xs.map fun x => V.ref x.2.1) acc'.toList := by
    rw [ea]
    have all : ∀ l : List (NestedKey × Addr × Value), Vals (l.map fun x => V.ref x.2.1) (l.map fun x => Value.ref x.2.1) := fun l => by
      induction l with
      | nil => exact .nil
      | cons x l ih => exact .cons rfl ih
    exact all xs
  have hz2 : (xs.map fun x => V.ref x.2.1).length ≤ sizeLine := by rw [List.length_map]; exact hz
  refine fin_newL (I.laid (t' := tk) (o := .lst (xs.map fun x => V.ref x.2.1)) kp (Nat.le_refl _) ?_) (I.hok.fresh (Nat.le_refl _)) m (dn_keysV h2) q
  exact ⟨hz2, acc'.toList, c', rv, by rw [Array.toArray_toList]; exact e⟩
theorem fin_newN {p : Addr} {s' : Shared} (I : Inv X pins σ (upd H p (dnO X.w p [])) s') (hp : H p = none) (m : RepM X.K M H) (q : Qd (.ref p) (up M p (.dn X.w []))) : EPD X pins σ M H Qd (.ref p) s' :=
  ⟨.ref p, up M p (.dn X.w []), .ref p, _, I, rfl, .new hp, mk_ref p, m.new (d := .dn X.w []) hp ⟨[], upd_same, .nil⟩, q⟩
theorem dnO_new {P : Program} {w : World} {H : Hp} (h : Heap) (hb : sysModules < h.objs.size) : ObjOk P w H (h.push { cls := .type "dict", data := .dict #[] }) h.objs.size (dnO w h.objs.size []) :=
  ⟨⟨beq_eq_false_iff_ne.mpr (Nat.ne_of_gt hb), Nat.zero_le _, _, #[], 0, Heap.get?_push_size _ rfl, ⟨rfl, rfl, rfl⟩, rfl, rfl, .nil⟩, ⟨_, Heap.get?_push_size _ rfl⟩, fun h1 h2 ⟨q1, q2, o', es', ep', q3, q4, q5, q6, q7⟩ k => ⟨q1, q2, o', es', ep', k o' q3, q4, q5, q6, q7⟩⟩
theorem le_nnew : PE X (.Dict [] [] pos) (LE X.K B fun σ M Q => ∀ p, M p = none → Q (.ref p) (up M p (.dn X.w []))) := by
  refine pe_of fun pins s σ H σd M Qd I a ht => ?_
  have hn : H s.heap.objs.size = none := I.hok.fresh (Nat.le_refl _)
  refine wpAny_Dict_empty (fin_newN (I.laid (a := s.heap.objs.size) (t' := s.toks) (fun _ _ q => Heap.get?_push_of_some _ q) (Nat.le_refl _) (dnO_new s.heap I.big)) hn a.m (ht _ (a.m.free hn)))
theorem mn_get (hu : X.A.units + 65 < cLine) : MtD X "dict.get" (rdNm X.w .get2) := by
  intro pins s σ H x xs v us dx ds M Qd I rx rxs r rl m h
  match ds, h with
  | [k, d], h =>
    obtain ⟨p, kds, nk, e1, e2, tk, q⟩ := h
    subst e1
    cases rep_ref r
    obtain rfl : v = .ref p := rx
    obtain ⟨vk, vd, rfl, rk, rd⟩ := repL2 rl
    cases rxs with
    | cons a1 b =>
      cases b with
      | cons a2 c =>
        cases c
        obtain ⟨a, rfl, hk, _⟩ := tk_is I tk rk a1
        obtain ⟨ys, h1, h2, hp, hz, dd⟩ := dn_at I m e2
        have hr : (nestedKind X.prog X.w).room X.A.in1 := by show X.A.units + 1 + 8 < cLine; omega
        have dk : s.heap.DictKeyed (nestedKind X.prog X.w) p (pairsH ys) := ⟨ys, dd, rfl⟩
        refine getOr_keyed hr hk hp dk ?_
        rw [valueAt_pairsH]
        have z := valN_at (k := nk) h2
        cases ev : valN kds nk with
        | none =>
          rw [ev] at z q
          rw [z]
          exact fin_ (I.tok _) a2 m rd q
        | some d' =>
          rw [ev] at z q
          obtain ⟨b, w, uu, z1, z2, z3⟩ := z
          rw [z1]
          exact fin_ (I.tok _) z2 m z3 q
  | [], h => exact h.elim
  | [_], h => exact h.elim
  | _ :: _ :: _ :: _, h => exact h.elim
theorem mn_setd (hu : X.A.units + 65 < cLine) : MtD X "dict.setdefault" (rdNm X.w .setd2) := by
  intro pins s σ H x xs v us dx ds M Qd I rx rxs r rl m h
  match ds, h with
  | [k, d], h =>
    obtain ⟨p, kds, nk, e1, e2, tk, hs, q1, q2⟩ := h
    subst e1
    cases rep_ref r
    obtain rfl : v = .ref p := rx
    obtain ⟨vk, vd, rfl, rk, rd⟩ := repL2 rl
    cases rxs with
    | cons a1 b =>
      cases b with
      | cons a2 c =>
        cases c
        obtain ⟨a, rfl, hk, rk'⟩ := tk_is I tk rk a1
        obtain ⟨ys, h1, h2, hp, hz, dd⟩ := dn_at I m e2
        have hr : (nestedKind X.prog X.w).room X.A.in1 := by show X.A.units + 1 + 8 < cLine; omega
        have z := valN_at (k := nk) h2
        have hl : kds.length = ys.length := dn_len h2
        refine call_setdefault_heap (hsz := hz) hr hk hp dd (fun b hb => ?_) fun hn h' dd' sb => ?_
        · cases ev : valN kds nk with
          | none => rw [ev] at z; rw [z] at hb; cases hb
          | some d' =>
            rw [ev] at z
            obtain ⟨b', w, uu, z1, z2, z3⟩ := z
            rw [z1] at hb
            cases hb
            exact fin_ (I.tok _) z2 m z3 (q1 d' ev)
        · have ev : valN kds nk = none := by
            have := valN_some (k := nk) h2
            rw [hn] at this
            exact Option.not_isSome_iff_eq_none.mp (by rw [← this]; simp)
          have pp := putN_at tk.2.2 h2 rk' a2 rd
          have ep : putN kds nk d = kds ++ [(nk, d)] := by unfold putN; rw [ev]; rfl
          rename_i vu
          have es : storedH ys nk a vu = ys ++ [(nk, a, vu)] := storedH_new hn a vu
          rw [ep] at pp
          obtain ⟨H', J, f, m', kf⟩ := dn_put (t' := s.toks + (nestedKind X.prog X.w).draws nk) I m e2 hp (by rw [es, List.length_append, List.length_singleton, ← hl]; omega) pp dd' sb
          exact ⟨d, _, vd, H', J, a2, f, rd.keep kf, m', q2 ev⟩
  | [], h => exact h.elim
  | [_], h => exact h.elim
  | _ :: _ :: _ :: _, h => exact h.elim
/-- what a receiver is -/
def RcvT (X : Cx) (T : String) (rcv : D → MM → Prop) : Prop := ∀ (pins : List (Addr × Obj)) (s : Shared) (σ : SV) (H : Hp) (d : D) (M : MM) (v : V) (u : Value), Inv X pins σ H s → rcv d M → Rep X.K H d v → RepM X.K M H → RelV v u → s.TypeIs u T ∧ ∀ b, u = .ref b → ∃ ob, s.heap.get? b = some ob ∧ ob.dict = none
theorem rcv_dn : RcvT X "dict" fun d M => ∃ p kds, d = .ref p ∧ M p = some (.dn X.w kds) := by
  intro pins s σ H d M v u I ⟨p, kds, e1, e2⟩ r m rv
  subst e1
  cases rep_ref r
  obtain rfl : u = .ref p := rv
  obtain ⟨xs, h1, h2, hp, hz, dd⟩ := dn_at I m e2
  refine ⟨dd.typeIs, fun b q => ?_⟩
  cases q
  obtain ⟨ob, _, _, g1, g2, _⟩ := dd
  exact ⟨ob, g1, g2.2.1⟩
theorem rcv_dct : RcvT X "dict" fun d M => ∃ ks ds, dcOf M d = some (ks, ds) := by
  intro pins s σ H d M v u I ⟨ks, ds, e⟩ r m rv
  obtain ⟨a, vs, rfl, hs, _⟩ := dcOf_rep e r m
  obtain rfl : u = .ref a := rv
  obtain ⟨_, _, _, _, dd⟩ := dk_rd I.hok hs
  refine ⟨dd.typeIs, fun b q => ?_⟩
  cases q
  obtain ⟨ob, _, _, g1, g2, _⟩ := dd
  exact ⟨ob, g1, g2.2.1⟩
theorem le_bmT {T id : String} {name : Str} {o e : Expr} {es : List Expr} {to : DE} {t : DA} {rd : RDM} {apos : Pos} {rcv : D → MM → Prop} (hr : RcvT X T rcv) (pa : PlainAttrs T) (slot : Slot T name id) (hty : typeOf (.builtin id) = pure (.type "method_descriptor")) (hm : MtD X id rd)
    (ho : PE X o (LE X.K B to)) (ha : PA X (e :: es) (LA X.K B t)) (hbase : attributeBase o name X.env (eval o X.env) = eval o X.env)
    (hfew : ((backTo pos (starEach (e :: es) X.env)).all (fun x => !x.1) && (backToKw pos (keywordEach [] X.env)).all (fun x => x.1.isSome) && decide ((e :: es).length + ([] : List Keyword).length + (if ([] : List Keyword).isEmpty then 0 else 1) < 30)) = true)
    (hline : (apos.endLine == pos.line) = true) (hs : starEach (e :: es) X.env = (false, eval e X.env) :: starEach es X.env) (hplain : (backTo pos (starEach es X.env)).any (·.1) = false) :
    PE X (.Call (.Attribute o name apos) (e :: es) [] pos) (LE X.K B fun σ M Q => to σ M fun x M1 => rcv x M1 ∧ t σ M1 fun ds M2 => rd x ds M2 Q) := by
  refine pe_of fun pins s σ H σd M Qd I a ht => ?_
  refine wpAny_Call_method_late hbase hfew hline rfl (thn (PE.at ho I a ht) fun v s1 ⟨d1, M1, v1, H1, I1, rv1, f1, r1, m1, rc, q1⟩ => ?_)
  obtain ⟨t1, t2⟩ := hr _ _ _ _ _ _ _ _ I1 rc r1 m1 rv1
  refine ⟨T, id, pa, slot, hty, t1, t2, ?_⟩
  have hA := la_run ha I1 (a.go f1 m1) q1 pos
  rw [hs] at hA ⊢
  refine Calls.callWith_builtin (by show (false || (backTo pos (starEach es X.env)).any (·.1)) = false; rw [hplain] <;> rfl) (Calls.evalArgs_plain ?_)
  exact thn hA fun us s2 ⟨ds, M2, vs, H2, I2, rv2, f2, rl2, m2, q2⟩ => thn (hm pins s2 σ H2 v1 vs _ us d1 ds M2 Qd I2 rv1 rv2 (r1.keep (f2.keep m1)) rl2 m2 q2) fun w s3 ⟨d3, M3, v3, H3, I3, rv3, f3, r3, m3, q3⟩ => ⟨d3, M3, v3, H3, I3, rv3, (f1.trans f2).trans f3, r3, m3, q3⟩
/-! ### dicts whose keys are texts -/
theorem m_get2 (hu : X.A.units + 65 < cLine) : MtD X "dict.get" (rdM .get2) := by
  intro pins s σ H x xs v us dx ds M Qd I rx rxs r rl m h
  match ds, h with
  | [k, d], h =>
    obtain ⟨ks, ds, key, e1, e2, q⟩ := h
    obtain ⟨a, vs, rfl, hs, hl, r2⟩ := dcOf_rep e1 r m
    obtain rfl : v = .ref a := rx
    obtain ⟨vk, vd, rfl, rk, rd⟩ := repL2 rl
    cases rxs with
    | cons a1 b =>
      cases b with
      | cons a2 c =>
        cases c
        have z := getK_val (k := key) hl r2
        cases ev : getKD ks ds key with
        | none =>
          rw [ev] at z q
          exact d_get2 (by omega) I (.inl ⟨_, key, hs, keyOf_rep e2 rk, rfl⟩) a1 a2 fun w' s' I' rw' => by
            rw [z] at rw'
            exact fin_ I' rw' m rd q
        | some d' =>
          rw [ev] at z q
          obtain ⟨v', hv, rv⟩ := z
          exact d_get2 (by omega) I (.inl ⟨_, key, hs, keyOf_rep e2 rk, rfl⟩) a1 a2 fun w' s' I' rw' => by
            rw [hv] at rw'
            exact fin_ I' rw' m rv q
  | [], h => exact h.elim
  | [_], h => exact h.elim
  | _ :: _ :: _ :: _, h => exact h.elim
theorem m_setd (hu : X.A.units + 65 < cLine) : MtD X "dict.setdefault" (rdM .setdefault) := by
  intro pins s σ H x xs v us dx ds M Qd I rx rxs r rl m h
  match ds, h with
  | [k, d], h =>
    obtain ⟨p, ks, ds, key, e0, e1, e2, hz, q1, q2⟩ := h
    subst e0
    cases rep_ref r
    obtain rfl : v = .ref p := rx
    obtain ⟨vs, hs, hl, r2⟩ := m _ _ e1
    obtain ⟨vk, vd, rfl, rk, rd⟩ := repL2 rl
    cases rxs with
    | cons a1 b =>
      cases b with
      | cons a2 c =>
        cases c
        have z := getK_val (k := key) hl r2
        have hz2 : (ks.zip vs).length < sizeLine := by rw [List.length_zip, ← hl, Nat.min_self]; exact hz
        have a1' := a1
        rw [keyOf_rep e2 rk] at a1'
        refine d_setd I hs a1' a2 hz2 (fun v0 hv w' s' I' rw' => ?_) fun hn w' s' I' rw' => ?_
        · cases ev : getKD ks ds key with
          | none => rw [ev] at z; rw [z] at hv; cases hv
          | some d' =>
            rw [ev] at z
            obtain ⟨v', hv', rv⟩ := z
            rw [hv'] at hv
            cases hv
            exact fin_ I' rw' m rv (q1 d' ev)
        · have ev : getKD ks ds key = none := by
            cases ev : getKD ks ds key with
            | none => rfl
            | some d' =>
              rw [ev] at z
              obtain ⟨v', hv', _⟩ := z
              rw [hv'] at hn
              cases hn
          have hk : hasK ks key = false := by
            have := hasK_val (k := key) hl
            rw [hn] at this
            exact this.symm
          obtain ⟨ws, e3, e4, e5⟩ := putK_zip (k := key) rd hl r2
          have ep : putKD ks ds key d = (ks ++ [key], ds ++ [d]) := by unfold putKD; rw [hk]; rfl
          rw [ep] at e3 e4 e5
          have k2 : KeepF H (upd H p (.dK (putK (ks.zip vs) key vd))) := .mut (m.mut e1)
          exact ⟨d, _, vd, _, I', rw', .put e1, rd.keep k2, m.put (d := .dct (ks ++ [key]) (ds ++ [d])) e1 ⟨ws, by rw [upd_same, e3], e4, e5.keep k2⟩, q2 ev⟩
  | [], h => exact h.elim
  | [_], h => exact h.elim
  | _ :: _ :: _ :: _, h => exact h.elim
theorem reps_str : ∀ ys : List Str, RepL K H (ys.map D.str) (ys.map V.str)
  | [] => .nil
  | y :: ys => .cons (mk_str y) (reps_str ys)
theorem reps_int : ∀ ys : List Int, RepL K H (ys.map D.int) (ys.map V.int)
  | [] => .nil
  | y :: ys => .cons (mk_int y) (reps_int ys)
theorem each_of {s : Shared} {R : Value → D × PyData → Prop} : ∀ {bs : List (D × PyData)} {vs : List V} {us : List Value}, RepL K H (bs.map (·.1)) vs → Vals vs us → (∀ b ∈ bs, ∀ v u, Rep K H b.1 v → RelV v u → R u b) → PySem.W.EachIs R us bs
  | [], vs, us, r, rv, _ => by
    rw [r.nil_inv] at rv
    cases rv
    exact .nil
  | b :: bs, vs, us, r, rv, h => by
    obtain ⟨v, w, e, h1, h2⟩ := RepL.cons_inv r
    subst e
    cases rv with
    | cons ru rr => exact .cons (h b (by simp) _ _ h1 ru) (each_of (s := s) h2 rr fun c hc => h c (List.mem_cons_of_mem _ hc))
theorem of_each : ∀ {bs : List (D × PyData)} {us : List Value}, PySem.W.EachIs (fun u (b : D × PyData) => ∃ v, RelV v u ∧ Rep K H b.1 v) us bs → ∃ vs, Vals vs us ∧ RepL K H (bs.map (·.1)) vs
  | [], _, .nil => ⟨[], .nil, .nil⟩
  | b :: bs, _, .cons ⟨v, h1, h2⟩ r => by
    obtain ⟨vs, h3, h4⟩ := of_each r
    exact ⟨v :: vs, .cons h1 h3, .cons h2 h4⟩
theorem c_sorted (hc : X.calm = true) (hu : X.A.units + 70 < cLine) {fz : Bool} : CallD X (.builtin "sorted") (fun ds M Q => match ds with | [d] => rdSorted fz d M Q | _ => False) := by
  refine d1 (rd := fun d M Q => rdSorted fz d M Q) ?_
  intro pins s σ H x u d M Qd I rx r m h
  rcases h with ⟨ks, ds, zs, e1, e2, hz, q⟩ | ⟨zs, e1, hz, q⟩ | ⟨is, e1, q⟩ | ⟨bs, e1, hv, hal, hk, hd, hz, q⟩
  · obtain ⟨a, vs, rfl, hs, hl, r2⟩ := dcOf_rep e1 r m
    have em : (ks.zip vs).map (·.1) = zs.map Sum.inr := by rw [List.map_fst_zip (by rw [hl]; exact Nat.le_refl _), e2]
    refine thn (call_sortedD hc pins s σ H _ _ (fun v H' => ∃ ys p, v = .ref p ∧ ys.Perm zs ∧ sortedS ys = true ∧ H p = none ∧ H' = upd H p (.lst (ys.map V.str))) I (v1 rx) ⟨a, _, zs, rfl, hs, em, hz, fun ys p h1 h2 h3 => ⟨ys, p, rfl, h1, h2, h3, rfl⟩⟩) fun w s' ⟨v, H', J, rv, ys, p, ev, h1, h2, h3, eH⟩ => ?_
    subst ev eH
    cases rv
    exact fin_newL J h3 m (reps_str ys) (q ys h1 h2)
  · obtain ⟨a, vs, rfl, hs, r2⟩ := lsOf_rep e1 r m
    have ev : vs = zs.map V.str := repL_map (g := V.str) (fun b v h => rep_str h) r2
    subst ev
    refine thn (cr_sortedS pins s σ H _ _ (fun v H' => ∃ ys p, v = .ref p ∧ ys.Perm zs ∧ sortedS ys = true ∧ H p = none ∧ H' = upd H p (.lst (ys.map V.str))) I (v1 rx) ⟨a, zs, rfl, hs.sql, hz, fun ys p h1 h2 h3 => ⟨ys, p, rfl, h1, h2, h3, rfl⟩⟩) fun w s' ⟨v, H', J, rv, ys, p, ev, h1, h2, h3, eH⟩ => ?_
    subst ev eH
    cases rv
    exact fin_newL J h3 m (reps_str ys) (q ys h1 h2)
  · obtain ⟨a, vs, rfl, hs, r2⟩ := lsOf_rep e1 r m
    have ev : vs = is.map V.int := repL_map (g := V.int) (fun b v h => rep_int h) r2
    subst ev
    refine thn (cr_sortedI pins s σ H _ _ (fun v H' => ∃ ys p, v = .ref p ∧ ys.Perm is ∧ ys.Pairwise (· ≤ ·) ∧ H p = none ∧ H' = upd H p (.lst (ys.map V.int))) I (v1 rx) ⟨a, is, rfl, hs.sql, fun ys p h1 h2 h3 => ⟨ys, p, rfl, h1, h2, h3, rfl⟩⟩) fun w s' ⟨v, H', J, rv, ys, p, ev, h1, h2, h3, eH⟩ => ?_
    subst ev eH
    cases rv
    exact fin_newL J h3 m (reps_int ys) (q ys h1 h2)
  · obtain ⟨a, vs, rfl, hs, r2⟩ := lsOf_rep e1 r m
    cases rx
    obtain ⟨its, rv, hl, hz2⟩ := I.list hs.sql
    have e1 : PySem.W.EachIs (fun u (b : D × PyData) => ∃ v, RelV v u ∧ Rep X.K H b.1 v) its bs := each_of (s := s) r2 rv fun b _ v u h1 h2 => ⟨v, h2, h1⟩
    have er : PySem.W.EachIs (fun v (b : D × PyData) => ∃ as, Reads s.heap v b.2 as) its bs := each_of (s := s) r2 rv fun b hb v u h1 h2 => Dp.reads I _ _ _ ((hv b hb).dp m h1) h2
    refine PySem.W.sorted_data (enc := fun b : D × PyData => b.2) hl.isList e1 er hal hk hz (fun b hb => by have := hd b hb; omega) fun out hlen eo => ?_
    obtain ⟨xs, hx, rx⟩ := of_each eo
    obtain ⟨ep, he'⟩ := PyProof.Rows.sortedAll_at s.heap its out.toArray
    have hlx : xs.length ≤ sizeLine := by
      rw [hx.length, hlen]
      exact hz
    exact fin_newL (p := s.heap.objs.size + 1) (I.laid (t' := s.toks) (fun _ _ => PyProof.Rows.sortedAll_old) (Nat.le_succ _) ⟨hlx, out, ep, hx, he'⟩) (I.hok.fresh (Nat.le_succ _)) m rx q
/-! ### d[k] = v -/
def TsN (X : Cx) : TSet := fun o i v H Q => ∃ dk dv M kds nk p, o = .ref p ∧ Rep X.K H dk i ∧ Rep X.K H dv v ∧ RepM X.K M H ∧ M p = some (.dn X.w kds) ∧ tkOf dk nk ∧ kds.length < sizeLine ∧ ∀ H', Fr M H (up M p (.dn X.w (putN kds nk dv))) H' → RepM X.K (up M p (.dn X.w (putN kds nk dv))) H' → KeepF H H' → Q H'
theorem putN_len {kds : List (NestedKey × D)} {k : NestedKey} {d : D} : (putN kds k d).length ≤ kds.length + 1 := by
  unfold putN
  split
  · rw [List.length_map]; omega
  · rw [List.length_append]; exact Nat.le_refl _
theorem set_dn (hu : X.A.units + 65 < cLine) : PSet X (TsN X) := by
  intro pins s σ H o i v ov iv u Q I r1 r2 r3 ⟨dk, dv, M, kds, nk, p, eo, rk, rd, m, e2, tk, hz, q⟩
  subst eo
  obtain rfl : ov = .ref p := r1
  obtain ⟨a, rfl, hk, rk'⟩ := tk_is I tk rk r2
  obtain ⟨ys, h1, h2, hp, hz2, dd⟩ := dn_at I m e2
  have hr : (nestedKind X.prog X.w).room X.A.in1 := by show X.A.units + 1 + 8 < cLine; omega
  refine wpAny_setItem_heap (hsz := hz2) hr hk dd fun h' dd' sb => ?_
  have pp := putN_at tk.2.2 h2 rk' r3 rd
  have hl : (storedH ys nk a u).length ≤ sizeLine := by
    rw [← dn_len pp]
    have := putN_len (kds := kds) (k := nk) (d := dv)
    omega
  obtain ⟨H', J, f, m', kf⟩ := dn_put (t' := s.toks + (nestedKind X.prog X.w).draws nk) I m e2 hp hl pp dd' sb
  exact ⟨H', J, q H' f m' kf⟩
theorem lg_nsub {o i : Expr} {to ti : DE} (hns : nSl i = true) (hu : X.A.units + 65 < cLine) (ho : PE X o (LE X.K B to)) (hi : PE X i (LE X.K B ti)) : PG X (.Subscript o i pos) (LGw X.K B [] fun d σ M Q => to σ M fun x M1 => ti σ M1 fun y M2 => nsubD X.w x y d σ M2 Q) := by
  refine (pg_sub ho hi (set_dn hu) (by intro v; cases i <;> first | rfl | cases hns)).imp fun v σ H Q ⟨d, σd, M, Qd, r, a, q, k⟩ => ?_
  refine LE.seq a q fun d1 M1 v1 H1 f1 a1 r1 q1 => LE.seq a1 q1 fun d2 M2 v2 H2 f2 a2 r2 ⟨p, kds, nk, e1, e2, tk, hz, q2⟩ => ?_
  subst e1
  refine ⟨d2, d, M2, kds, nk, p, rep_ref r1, r2, a1.rep f2 (a.rep f1 r), a2.m, e2, tk, hz, fun H' f m' kf => ?_⟩
  exact k σd _ σ H' .refl ((f1.trans f2).trans f) (a2.s.keep kf) m' q2
end
end RX
set_option Elab.async false
set_option linter.all false
set_option maxRecDepth 100000
set_option maxHeartbeats 4000000
/-! RX10c: {k: v for ..}, the keys tuples. -/
namespace RX
open PySem PySem.Spec PyProof.Rows L2
/-- what a turn stores -/
abbrev StN := Addr → V → V → Hp → (Hp → Prop) → Prop
def StOk (X : Cx) (t : StN) : Prop := ∀ (Y : Cx) (pq : List (Addr × Obj)) (z : Shared) (τ : SV) (G : Hp) (p : Addr) (y v : V) (k u : Value) (Z : Hp → Prop), Y.K = X.K → Y.prog = X.prog → Y.w = X.w → Y.A = X.A → Inv Y pq τ G z → RelV y k → RelV v u → t p y v G Z →
  wpAny (model Y.prog Y.w) Y.A (dictSet p k u) (fun _ z' => ∃ G', Inv Y pq τ G' z' ∧ Z G') Y.xe z
def tNc (w : World) (wi : TI) (g : TG) (tk tv : TE) (t : StN) (vs : List Nat) : TE := fun σ H Q => wi σ H fun J H1 => ∀ p, H1 p = none → ∃ W : Nat → Nat → Hp → Prop, (∃ m, W 0 m (upd H1 p (dnO w p []))) ∧ ∀ i m G, W i m G →
  (J.stop i G ∧ Q (.ref p) G) ∨ (J.go i G ∧ ∃ N : Hp → Prop, (∀ G', N G' → ∃ m', m' < m ∧ W (i + 1) m' G') ∧ ∀ x G', J.yld i G x G' → g x (wipe σ vs) G' fun τ G2 => wipe τ vs = wipe σ vs ∧ tk τ G2 fun y G3 => tv τ G3 fun v G4 => t p y v G4 N)
section
variable {X : Cx}
theorem nc_run {pins : List (Addr × Obj)} {s : Shared} {σ : SV} {H : Hp} {Q : VK} {kx vx tg iter : Expr} {scope : Scope} {own : List (Str × Nat)} {pos pos' : Pos} {wi : TI} {g : TG} {tk tv : TE} {t : StN} {use : Option (Value → Sem Unit)} {Qf : Value → Shared → Prop}
    (cm : X.calm = true) (nd : X.N.Nodup) (I : Inv X pins σ H s) (pi : PI X tg iter wi) (bk : BlkOk X.N X.env.scope scope own)
    (pg : AllBlk X scope fun Y => PG Y tg g) (pk : AllBlk X scope fun Y => PE Y kx tk) (pv : AllBlk X scope fun Y => PE Y vx tv) (ot : StOk X t) (fo : ∀ x, foldedSetIterable iter X.env x = pure x) (q : tNc X.w wi g tk tv t (own.map (·.2)) σ H Q)
    (fin : ∀ p C z m G, Inv X pins σ G z → Q (.ref p) G → z.heap.Ns C m → FpOk X pins G C → compPost (model X.prog X.w) X.A X.xe use Qf (.ref p) C (.ok .next) z) :
    wpAny (model X.prog X.w) X.A (comprehension (.DictComp kx vx [⟨tg, iter, [], 0⟩] scope pos) scope X.env pos' newDict false (eval iter X.env) use) Qf X.xe s := by
  have clo : ∀ y ∈ scope.names, y.2 = .free → ∃ c, X.env.cells.lookup y.1 = some c := fun y hy e => (bk.free y hy e).elim (fun k => I.ok.has _ (.inl k)) fun k => I.ok.has _ (.inr k)
  refine wpAny_comprehension_free (use := use) rfl fo (closure_ok clo) bk.kind (fun y hy e => by rw [bk.uniq y hy, e]) ?_
  refine thn (pi.run pins s σ H _ I q) fun x0 z0 hz0 => thn hz0 fun x1 z1 ⟨a, fs, at', J, G1, ea, J1, turn, h1, own1, q1⟩ => ?_
  subst ea
  refine wpAny_newObj_type (newEnv_comp ?_)
  obtain ⟨p, hp⟩ : ∃ p, p = z1.heap.objs.size := ⟨_, rfl⟩
  obtain ⟨z2, hz2⟩ : ∃ z : Shared, z = { z1 with heap := z1.heap.push { cls := .type "dict", data := .dict #[] } } := ⟨_, rfl⟩
  have np : G1 p = none := J1.hok.fresh (Nat.le_of_eq hp.symm)
  obtain ⟨W, ⟨m0, w0⟩, trn⟩ := q1 p np
  have hh : z2.heap = z1.heap.push { cls := .type "dict", data := .dict #[] } := by rw [hz2]
  have J2 : Inv X pins σ (upd G1 p (dnO X.w p [])) z2 := by
    rw [hz2, hp]
    exact J1.laid (t' := z1.toks) (fun b o e => Heap.get?_push_of_some _ e) (Nat.le_refl _) (dnO_new z1.heap J1.big)
  have lt1 : ∀ b ∈ fs, b < z1.heap.objs.size := fun b hb => by
    obtain ⟨o, e, _⟩ := turn.obj _ _ h1 b hb
    exact Heap.lt_size e
  have own2 : ∀ b ∈ fs, FpOk X pins (upd G1 p (dnO X.w p [])) b ∧ b < z2.heap.objs.size := fun b hb => by
    have l := lt1 b hb
    refine ⟨⟨?_, (own1 b hb).2⟩, by rw [hh, Heap.size_push]; exact Nat.lt_succ_of_lt l⟩
    rw [upd_ne (by rw [hp]; exact Nat.ne_of_lt l)]
    exact (own1 b hb).1
  have h2 : at' 0 z2.heap := turn.keep _ _ _ h1 fun b _ o e => by rw [hh]; exact Heap.get?_push_of_some _ e
  have J3 := block_start J2 bk nd own2
  rw [← hp, ← hz2]
  obtain ⟨G2, hG2⟩ : ∃ G, G = upd G1 p (dnO X.w p []) := ⟨_, rfl⟩
  rw [← hG2] at J2 J3 own2 w0
  have pg' := pg z2 G2 z2.heap.objs.size (cellsFrom (z2.heap.objs.size + 1) scope.names (cloFrom X.env.cells scope.names [])) fs
  have pk' := pk z2 G2 z2.heap.objs.size (cellsFrom (z2.heap.objs.size + 1) scope.names (cloFrom X.env.cells scope.names [])) fs
  have pv' := pv z2 G2 z2.heap.objs.size (cellsFrom (z2.heap.objs.size + 1) scope.names (cloFrom X.env.cells scope.names [])) fs
  obtain ⟨ce, hce⟩ : ∃ c, c = compEnvC scope (cellsFrom (z2.heap.objs.size + 1) scope.names (cloFrom X.env.cells scope.names [])) z2.heap.objs.size X.env := ⟨_, rfl⟩
  obtain ⟨z3, hz3⟩ : ∃ z : Shared, z = { z2 with heap := pushCells (z2.heap.push { cls := .type "dict", data := .dict #[] }) scope.names } := ⟨_, rfl⟩
  rw [← hce] at J3 pg' pk' pv'
  rw [← hz3] at J3
  show codeAny _ _ (.compStart _ 0 (.ref a) (.ref p) (compEnvC scope (cellsFrom (z2.heap.objs.size + 1) scope.names (cloFrom X.env.cells scope.names [])) z2.heap.objs.size X.env)) (compPost _ X.A X.xe use Qf (.ref p) z2.heap.objs.size) { z2 with heap := pushCells (z2.heap.push { cls := .type "dict", data := .dict #[] }) scope.names }
  rw [← hce, ← hz3]
  have lce : ce.locals = z2.heap.objs.size := by rw [hce]; rfl
  have h3 : at' 0 z3.heap := turn.keep _ _ _ h2 fun b _ o e => by rw [hz3]; exact pushCells_keeps _ _ _ _ (Heap.get?_push_of_some _ e)
  have free2 : ∀ b ∈ fs, G2 b = none := fun b hb => (own2 b hb).1.1
  have ownB : ∀ {τ : SV} {G : Hp} {z : Shared}, Inv (X.blk z2 G2 scope ce fs) [] τ G z → (∀ b ∈ fs, G b = none) → ∀ b ∈ fs, FpOk (X.blk z2 G2 scope ce fs) [] G b := fun {τ G z} J' hn b hb =>
    ⟨hn b hb, (J'.ok.exf b hb).1, J'.ok.exfs b hb, .inl hb, fun x c e => (J'.ok.exf b hb).2 x c e, fun y hy => nomatch hy⟩
  have loop : codeAny (model X.prog X.w) X.A (.compLoop (.DictComp kx vx [⟨tg, iter, [], 0⟩] scope pos) 0 (.ref a) (.ref p) ce) (compPost (model X.prog X.w) X.A X.xe use Qf (.ref p) z2.heap.objs.size) z3 := by
    refine compLoop_anyD (fun n z => ∃ i G, Inv (X.blk z2 G2 scope ce fs) [] (wipe σ (own.map (·.2))) G z ∧ at' i z.heap ∧ (∀ b ∈ fs, G b = none) ∧ W i n G) ?_ m0 ⟨0, G2, J3, h3, free2, w0⟩
    intro n z4 ⟨i, G4, J4, h4, n4, w4⟩
    rcases trn i n G4 w4 with ⟨stop, qe⟩ | ⟨go, N, hN, step⟩
    · refine thnF (turn.done (X.blk z2 G2 scope ce fs) rfl rfl rfl cm i [] z4 _ G4 (fun _ _ => False) J4 (ownB J4 n4) h4 stop) fun r z5 ⟨er, J5⟩ => ?_
      subst er
      have nC : G4 z2.heap.objs.size = none := by rw [← lce]; exact J5.free
      have nsC : ∃ m, z5.heap.Ns z2.heap.objs.size m := by
        obtain ⟨m, hm, _⟩ := J5.loc
        exact ⟨m, by rw [← lce]; exact hm⟩
      obtain ⟨m, hm⟩ := nsC
      exact fin p _ z5 m G4 (J2.call' (ch := fs) J5.os J5.base J5.hok J5.bare fun b hb => let o := (own2 b hb).1.2; ⟨o.2.2.1, o.1, o.2.2.2.1, o.2.2.2.2⟩) qe hm (J2.fpOk (Nat.le_refl _) nC)
    · refine thnF (turn.item (X.blk z2 G2 scope ce fs) rfl rfl rfl cm i [] z4 _ G4 (fun _ _ => False) J4 (ownB J4 n4) h4 go) fun r z5 ⟨u, er, hu⟩ => ?_
      subst er
      refine thnF hu fun _ z6 ⟨x, G6, J6, rx, y6, h6, n6⟩ => ?_
      refine thnF (pg'.run _ z6 _ G6 x u _ (J6.pinned (ownB J6 n6) (turn.obj _ _ h6)) rx (step x G6 y6)) fun _ z7 ⟨τ, G7, J7, wi7, q7⟩ => ?_
      refine thnF (show wpAny (model X.prog X.w) X.A (forIn ([] : List Expr) true fun c r => if r = true then do let ok ← isTrue c ce (eval c ce); pure (ForInStep.yield ok) else pure (ForInStep.yield r)) (fun ok z => ok = true ∧ z = z7) (fun _ _ => False) z7 from wpAny_pure ⟨rfl, rfl⟩) fun b z8 ⟨eb, ez⟩ => ?_
      subst eb ez
      rw [if_pos rfl]
      refine thnF (pk'.run _ z8 τ G7 _ J7 q7) fun ku z9 ⟨y, G9, J9, ry, q9⟩ => ?_
      refine thnF (pv'.run _ z9 τ G9 _ J9 q9) fun vu z10 ⟨v, G10, J10, rv, q10⟩ => ?_
      refine thnF (ot (X.blk z2 G2 scope ce fs) _ z10 τ G10 p y v ku vu N rfl rfl rfl rfl J10 ry rv q10) fun _ z11 ⟨G11, J11, nx⟩ => ?_
      obtain ⟨m', hm, w'⟩ := hN G11 nx
      have stay : ∀ b ∈ fs, ∀ o, z6.heap.get? b = some o → z11.heap.get? b = some o ∧ G11 b = none := fun b hb o e =>
        let y := J11.pin (b, o) (List.mem_append_right _ (List.mem_append_right _ (mem_pinsAt hb e)))
        ⟨y.1, y.2.1⟩
      have ln : (wipe σ (own.map (·.2))).length = τ.length := by rw [← wi7, wipe_length]
      refine ⟨m', hm, i + 1, G11, (J11.unpinned (pins := [])).weak ln (fun j c e => (wipe_some (by rw [← wi7] at e; exact e)).1), turn.keep _ _ _ h6 fun b hb o e => (stay b hb o e).1, fun b hb => ?_, w'⟩
      obtain ⟨o, e, _⟩ := turn.obj _ _ h6 b hb
      exact (stay b hb o e).2
  exact codeAny_compStart_dict loop (turn.self X.A 0 _ _ _ h3 loop)
theorem dnr_is {pins : List (Addr × Obj)} {s : Shared} {σ : SV} {H : Hp} (I : Inv X pins σ H s) {kds : List (NestedKey × D)} {xs : List (NestedKey × Addr × Value)} (h : Paired (DnR X.K H) kds xs) : ∀ x ∈ xs, (nestedKind X.prog X.w).is s.heap x.1 x.2.1 := by
  induction h with
  | nil => intro x hx; cases hx
  | @cons a b as bs h t ih =>
    intro x hx
    rcases List.mem_cons.mp hx with z | hx
    · subst z
      exact ⟨nk_is I h.2.2.1 rfl, by rw [← h.1]; exact h.2.1⟩
    · exact ih x hx
def TsC (K : PySem.W.Frag) (w : World) : StN := fun p y v G Z => ∃ dk dv kds xs nk, Rep K G dk y ∧ Rep K G dv v ∧ G p = some (dnO w p xs) ∧ Paired (DnR K G) kds xs ∧ tkOf dk nk ∧ kds.length < sizeLine ∧
  ∀ ys, Paired (DnR K (upd G p (dnO w p ys))) (putN kds nk dv) ys → Z (upd G p (dnO w p ys))
theorem tsC_ok (hu : X.A.units + 65 < cLine) : StOk X (TsC X.K X.w) := by
  intro Y pq z τ G p y v k u Z eK eP eW eA I ry rv ⟨dk, dv, kds, xs, nk, rk, rd, hp, pr, tk, hz, q⟩
  rw [← eK, ← eW] at *
  rw [← eA] at hu
  obtain ⟨a, rfl, hk, rk'⟩ := tk_is I tk rk ry
  obtain ⟨⟨hp1, hz1, o, es, ep, g1, g2, g3, g4, g5⟩, _⟩ := I.hok p _ hp
  have dd : z.heap.DictOfH (nestedKind Y.prog Y.w) p xs := ⟨o, es, ep, g1, g2, g3, g4, dnr_is I pr, g5⟩
  have hr : (nestedKind Y.prog Y.w).room Y.A := by show Y.A.units + 8 < cLine; omega
  refine wpAny_dictSet_heap (hsz := hz1) hr hk dd fun h' dd' sb => ?_
  have pp := putN_at tk.2.2 pr rk' rv rd
  have hl : (storedH xs nk a u).length ≤ sizeLine := by
    rw [← dn_len pp]
    have := putN_len (kds := kds) (k := nk) (d := dv)
    omega
  obtain ⟨o', es', ep', k1, k2, k3, k4, _, k5⟩ := dd'
  have mu : Mut (G p) := by rw [hp]; trivial
  have kf : KeepF G (upd G p (dnO Y.w p (storedH xs nk a u))) := .mut (.inl mu)
  refine ⟨upd G p (dnO Y.w p (storedH xs nk a u)), d_write I mu sb ⟨o', k1⟩ ⟨⟨hp1, hl, o', es', ep', k1, k2, k3, k4, k5⟩, ⟨o', k1⟩, fun h1 h2 ⟨q1, q2, o2, es2, ep2, q3, q4, q5, q6, q7⟩ k => ⟨q1, q2, o2, es2, ep2, k o2 q3, q4, q5, q6, q7⟩⟩, q _ (L2.Paired.mapP pp fun _ _ r => r.keep kf)⟩
end
/-- the new dict -/
def NcEnd (K : PySem.W.Frag) (w : World) (M : MM) (H : Hp) (Qn : List (NestedKey × D) → MM → Prop) : VK := fun v H' => ∃ p xs kds M', v = .ref p ∧ (∀ u, H p = some u → M p = none → False) ∧ H' p = some (dnO w p xs) ∧ Paired (DnR K H') kds xs ∧ M' p = none ∧ Fr M H M' H' ∧ RepM K M' H' ∧ Qn kds M'
theorem nc_wish {K : PySem.W.Frag} {B : Bs} {w : World} {tI : DI} {g : DG} {tk te : DE} {vs ws : List Nat} {σ : SV} {H : Hp} {σd : DSt} {M : MM} {Qn : List (NestedKey × D) → MM → Prop} (hw : ∀ i ∈ ws, i ∈ vs) (a : At K B H σd M σ)
    (t : tI σd M fun xs stab M1 => ndD stab w g tk te vs σd Qn xs [] M1) : tNc w (LI K B tI) (LGw K B ws g) (LE K B tk) (LE K B te) (TsC K w) vs σ H (NcEnd K w M H Qn) := by
  refine ⟨σd, M, _, a, t, fun xs stab M1 J H1 f1 m1 ok r => fun p hp => ?_⟩
  have m1p : M1 p = none := m1.free hp
  refine ⟨fun i m Hc => ∃ Mc kds us, m = xs.length - i ∧ i ≤ xs.length ∧ Fr M1 H1 Mc Hc ∧ Mc p = none ∧ Hc p = some (dnO w p us) ∧ Paired (DnR K Hc) kds us ∧ RepM K Mc Hc ∧ ndD stab w g tk te vs σd Qn (xs.drop i) kds Mc,
    ⟨xs.length, M1, [], [], by simp, Nat.zero_le _, .hid hp, m1p, upd_same, .nil, m1.hid hp, r⟩, ?_⟩
  rintro i m Hc ⟨Mc, kds, us, rfl, hi, fc, pc, hc, rc, mc, q⟩
  rcases drop_cases (xs := xs) (i := i) with ⟨hlt, x, hx, ed⟩ | ⟨hge, ed⟩
  · rw [ed] at q
    unfold ndD at q
    obtain ⟨hst, hz, q⟩ := q
    refine .inr ⟨ok.go i Mc Hc fc mc hst hlt, fun Hn => ∃ Mn kds us, i + 1 ≤ xs.length ∧ Fr M1 H1 Mn Hn ∧ Mn p = none ∧ Hn p = some (dnO w p us) ∧ Paired (DnR K Hn) kds us ∧ RepM K Mn Hn ∧ ndD stab w g tk te vs σd Qn (xs.drop (i + 1)) kds Mn,
      fun Hn ⟨Mn, ks', us', h1, h2⟩ => ⟨xs.length - (i + 1), by omega, Mn, ks', us', rfl, h1, h2⟩, fun xv H' y => ?_⟩
    obtain ⟨d, hd, rd, f', m'⟩ := ok.yld i Mc Hc xv H' fc mc hst hlt y
    rw [hx] at hd
    cases hd
    have p1 := f' p _ hc pc
    have F1 : Fr M H Mc H' := (f1.trans fc).trans f'
    refine ⟨x, wipeD σd vs, Mc, _, rd, ⟨a.b.trans F1, (a.s.keep (F1.keep a.m)).wipe vs, m'⟩, q, fun σ2d M2 σ2 H2 sm f2 s2 m2 q2 => ⟨sm.wipe hw, ?_⟩⟩
    have p2 := f2 p _ p1.1 p1.2
    have F2 := F1.trans f2
    have a2 : At K B H2 σ2d M2 σ2 := ⟨a.b.trans F2, s2, m2⟩
    refine LE.seq a2 q2 fun dk M3 v3 H3 f3 a3 r3 ⟨key, hk, q3⟩ => ?_
    have p3 := f3 p _ p2.1 p2.2
    refine LE.seq a3 q3 fun dy M4 v4 H4 f4 a4 r4 q4 => ?_
    have p4 := f4 p _ p3.1 p3.2
    have G : Fr M1 H1 M4 H4 := (((fc.trans f').trans f2).trans f3).trans f4
    have kc : KeepF Hc H4 := (((f'.trans f2).trans f3).trans f4).keep mc
    refine ⟨dk, dy, kds, us, key, a3.rep f4 r3, r4, p4.1, L2.Paired.mapP rc fun _ _ r => r.keep kc, hk, hz, fun ys hy => ?_⟩
    obtain ⟨g1, g2, g3⟩ := hid_upd (u' := dnO w p ys) G a4.m hp p4.2 p4.1 trivial
    exact ⟨M4, _, ys, hlt, g1, p4.2, upd_same, hy, g2, q4⟩
  · have e : i = xs.length := by omega
    subst e
    rw [ed] at q
    unfold ndD at q
    obtain ⟨hst, q⟩ := q
    have h0 : ∀ u, H p = some u → M p = none → False := fun u e e2 => by
      have z := (f1 p u e e2).1
      rw [hp] at z
      cases z
    exact .inl ⟨ok.stop Mc Hc fc mc hst, p, us, kds, Mc, rfl, h0, hc, rc, pc, f1.trans fc, mc, q⟩
section
variable {X : Cx} {B : Bs} {pos : Pos}
theorem nc_done {pins : List (Addr × Obj)} {σ : SV} {M : MM} {H H' : Hp} {Qd : DV} {v : V} {u : Value} {s' : Shared} (I : Inv X pins σ H' s') (rv : RelV v u) (h : NcEnd X.K X.w M H (fun kds M2 => ∀ p, M2 p = none → Qd (.ref p) (up M2 p (.dn X.w kds))) v H') : EPD X pins σ M H Qd u s' := by
  obtain ⟨p, xs, kds, M', e, h0, hp, pr, mp, f, m, q⟩ := h
  subst e
  refine ⟨.ref p, up M' p (.dn X.w kds), .ref p, H', I, rv, fun a u e e2 => ?_, mk_ref p, fun a o e => ?_, q p mp⟩
  · have ne : a ≠ p := fun z => h0 u (by rw [← z]; exact e) (by rw [← z]; exact e2)
    obtain ⟨h1, h2⟩ := f a u e e2
    exact ⟨h1, by rw [up_ne ne]; exact h2⟩
  · by_cases z : a = p
    · subst z
      rw [up_same] at e
      cases e
      exact ⟨xs, hp, pr⟩
    · rw [up_ne z] at e
      exact m a o e
theorem le_ndc {kx elt tg iter : Expr} {scope : Scope} {own : List (Str × Nat)} {tI : DI} {g : DG} {tk te : DE} {ws : List Nat} (hc : X.calm = true) (hu : X.A.units + 65 < cLine) (hN : X.N.Nodup) (hi : PI X tg iter (LI X.K B tI)) (ok : BlkOk X.N X.env.scope scope own)
    (hw : ∀ i ∈ ws, i ∈ own.map (·.2)) (hg : AllBlk X scope fun Y => PG Y tg (LGw Y.K B ws g)) (hk : AllBlk X scope fun Y => PE Y kx (LE Y.K B tk)) (he : AllBlk X scope fun Y => PE Y elt (LE Y.K B te)) (hs : ∀ x, foldedSetIterable iter X.env x = pure x) :
    PE X (.DictComp kx elt [⟨tg, iter, [], 0⟩] scope pos) (LE X.K B fun σ M Q => tI σ M fun xs stab M1 => ndD stab X.w g tk te (own.map (·.2)) σ (fun kds M2 => ∀ p, M2 p = none → Q (.ref p) (up M2 p (.dn X.w kds))) xs [] M1) := by
  refine pe_of fun pins s σ H σd M Qd I a t => ?_
  rw [arm_eval_DictComp]
  refine nc_run (g := LGw X.K B ws g) (tk := LE X.K B tk) (tv := LE X.K B te) hc hN I hi ok hg hk he (tsC_ok hu) hs (nc_wish hw a t) fun p C z m G J q hn f => ⟨m, hn, fun h'' sb => ?_⟩
  obtain ⟨c0, c1, c2, c3, c4, c5⟩ := f
  exact nc_done (v := .ref p) (J.turned (t' := z.toks) (fun b o hb e => (sb.2 b hb).trans e) c0 c1 c3 c4 c5) rfl q
theorem le_ixG {a b : Expr} {ta tb : DE} {rd : RD2} (hd : IxD X rd) (ha : PE X a (LE X.K B ta)) (hb : PE X b (LE X.K B tb)) (hs : PlainIx b) : PE X (.Subscript a b pos) (LE X.K B fun σ M Q => ta σ M fun x M1 => tb σ M1 fun y M2 => rd x y M2 Q) :=
  (pe_ix (ixr_of hd) ha hb hs).imp fun σ H Q ⟨σd, M, Qd, a, t, k⟩ => LE.seq a t fun d1 M1 v1 H1 f1 a1 r1 q1 => LE.seq a1 q1 fun d2 M2 v2 H2 f2 a2 r2 q2 =>
    ⟨d1, d2, M2, Qd, a1.rep f2 r1, r2, a2.m, q2, fun d3 M3 v3 H3 f3 r3 m3 q3 => k d3 M3 v3 H3 ((f1.trans f2).trans f3) r3 m3 q3⟩
theorem le_cmpG {o : CmpOp} {a b : Expr} {ta tb : DE} {rd : RD2} (hd : OpD X (compareOp o) rd) (ha : PE X a (LE X.K B ta)) (hb : PE X b (LE X.K B tb)) (hm : behindInMarks o b = false) :
    PE X (.Compare a [o] [b] pos) (LE X.K B fun σ M Q => ta σ M fun x M1 => tb σ M1 fun y M2 => rd x y M2 Q) :=
  (pe_cmpR (opr_of hd) ha hb hm).imp fun σ H Q ⟨σd, M, Qd, a, t, k⟩ => LE.seq a t fun d1 M1 v1 H1 f1 a1 r1 q1 => LE.seq a1 q1 fun d2 M2 v2 H2 f2 a2 r2 q2 =>
    ⟨d1, d2, M2, Qd, a1.rep f2 r1, r2, a2.m, q2, fun d3 M3 v3 H3 f3 r3 m3 q3 => k d3 M3 v3 H3 ((f1.trans f2).trans f3) r3 m3 q3⟩
theorem lt_cmpG {o : CmpOp} {a b : Expr} {ta tb : DE} {rd : D → D → MM → (Bool → MM → Prop) → Prop} (hd : OpD X (compareOp o) (bD rd)) (ha : PE X a (LE X.K B ta)) (hb : PE X b (LE X.K B tb)) (hm : behindInMarks o b = false) :
    PT X (.Compare a [o] [b] pos) (LT X.K B fun σ M Q => ta σ M fun x M1 => tb σ M1 fun y M2 => rd x y M2 Q) := by
  have h := pt_cmpR (pos := pos) (opr_of hd) ha hb hm
  refine h.imp fun σ H Q ⟨σd, M, Qd, a, t, k⟩ => LE.seq a t fun d1 M1 v1 H1 f1 a1 r1 q1 => LE.seq a1 q1 fun d2 M2 v2 H2 f2 a2 r2 q2 => ?_
  refine ⟨d1, d2, M2, fun d M' => ∃ b, d = .bl b ∧ Qd b M', a1.rep f2 r1, r2, a2.m, ?_, fun d3 M3 v3 H3 f3 r3 m3 ⟨b, e, q3⟩ => ⟨b, by rw [e] at r3; exact rep_bl r3, k b M3 H3 ((f1.trans f2).trans f3) m3 q3⟩⟩
  have e : (fun b M' => ∃ b', D.bl b = .bl b' ∧ Qd b' M') = Qd := by funext b M'; exact propext ⟨fun ⟨b', e, q⟩ => by cases e; exact q, fun q => ⟨b, rfl, q⟩⟩
  show rd d1 d2 M2 (fun b M' => ∃ b', D.bl b = .bl b' ∧ Qd b' M')
  rw [e]
  exact q2
/-- [*e, ..] -/
theorem la_star {e : Expr} {es : List Expr} {te : DE} {t : DA} {p : Pos} (he : PE X e (LE X.K B te)) (hr : PA X es (LA X.K B t)) : PA X (.Starred e p :: es) (LA X.K B fun σ M Q => te σ M fun x M1 => ∃ ys, sqOf M1 x = some ys ∧ t σ M1 fun xs M2 => Q (ys ++ xs) M2) :=
  (StX.pa_star he hr).imp fun σ H Q ⟨σd, M, Qd, a, tt, k⟩ => LE.seq a tt fun d1 M1 v1 H1 f1 a1 r1 ⟨ys, e1, q1⟩ => by
    obtain ⟨b, vs, rfl, hs, r2⟩ := sqOf_rep e1 r1 a1.m
    refine ⟨b, vs, rfl, hs.symm, σd, M1, _, a1, q1, fun ds M2 ws H2 f2 rr m2 q2 => ?_⟩
    exact k (ys ++ ds) M2 (vs ++ ws) H2 (f1.trans f2) ((a1.repL f2 r2).append rr) m2 q2
end
end RX
set_option Elab.async false
set_option linter.all false
set_option maxRecDepth 100000
set_option maxHeartbeats 4000000
/-! RX10d: comprehensions with two generators, the second over a list that is written no more. -/
namespace RX
open PySem PySem.Spec PyProof.Rows L2
def LF (K : PySem.W.Frag) (B : Bs) (t : DSt → MM → (List D → MM → Prop) → Prop) : TI := fun σ H R => ∃ σd M Rd, At K B H σd M σ ∧ t σd M Rd ∧ ∀ ys p vs M' H', Fr M H M' H' → RepM K M' H' → FzL K H' p vs → RepL K H' ys vs → Rd ys M' → R (Itl K p) H'
section
variable {X : Cx} {B : Bs} {pos : Pos}
theorem li_fz {tg e : Expr} {te : DE} (he : PE X e (LE X.K B te)) : PI X tg e (LF X.K B (fzI te)) := by
  refine ⟨fun pins s σ H R I ⟨σd, M, Rd, a, t, k⟩ => ?_⟩
  have t : te σd M fun d M1 => ∃ ys, d = .lst ys ∧ Rd ys M1 := t
  refine thn (RX.PE.at he I a t) fun u s1 ⟨d, M1, v, H1, I1, rv, f1, rd, m1, q0⟩ => ?_
  obtain ⟨ys, e, q⟩ := q0
  subst e
  obtain ⟨p, vs, e, hs, rl⟩ := rep_lst rd
  subst e
  cases rv
  obtain ⟨its, rv, pl, hz⟩ := I1.list hs.sql
  refine wpAny_pyIter_list pl.isList ?_
  exact pi_one (tk := s1.toks) I1 _ (turn_list p _) ⟨_, Heap.get?_push_size _ rfl, rfl, rfl⟩ (k ys p vs M1 _ f1 m1 hs rl q)
end
section
variable {K : PySem.W.Frag} {B : Bs}
theorem lc2_wish {tI : DI} {g g1 : DG} {tt tt1 : DT} {w1 : DSt → MM → (List D → MM → Prop) → Prop} {te : DE} {vs ws vs1 ws1 : List Nat} {σ : SV} {H : Hp} {σd : DSt} {M : MM} {Qn : List D → MM → Prop} (hw : ∀ i ∈ ws, i ∈ vs) (hw1 : ∀ i ∈ ws1, i ∈ vs1) (a : At K B H σd M σ)
    (t : tI σd M fun xs stab M1 => lcD2 stab g tt w1 g1 tt1 te vs vs1 σd Qn xs [] M1) : tLc2 (LI K B tI) (LGw K B ws g) (LT K B tt) (LF K B w1) (LGw K B ws1 g1) (LT K B tt1) (LE K B te) vs vs1 σ H (LcEnd K M H Qn) := by
  refine ⟨σd, M, _, a, t, fun xs stab M1 J H1 f1 m1 ok r => fun p hp => ?_⟩
  have m1p : M1 p = none := m1.free hp
  refine ⟨fun i m Hc => ∃ Mc acc us, m = xs.length - i ∧ i ≤ xs.length ∧ Fr M1 H1 Mc Hc ∧ Mc p = none ∧ Hc p = some (.lst us) ∧ RepL K Hc acc us ∧ RepM K Mc Hc ∧ lcD2 stab g tt w1 g1 tt1 te vs vs1 σd Qn (xs.drop i) acc Mc,
    ⟨xs.length, M1, [], [], by simp, Nat.zero_le _, .hid hp, m1p, upd_same, .nil, m1.hid hp, r⟩, ?_⟩
  rintro i m Hc ⟨Mc, acc, us, rfl, hi, fc, pc, hc, rc, mc, q⟩
  rcases drop_cases (xs := xs) (i := i) with ⟨hlt, x, hx, ed⟩ | ⟨hge, ed⟩
  · rw [ed] at q
    unfold lcD2 at q
    obtain ⟨hst, q⟩ := q
    refine .inr ⟨ok.go i Mc Hc fc mc hst hlt, fun Hn => ∃ Mn acc us, i + 1 ≤ xs.length ∧ Fr M1 H1 Mn Hn ∧ Mn p = none ∧ Hn p = some (.lst us) ∧ RepL K Hn acc us ∧ RepM K Mn Hn ∧ lcD2 stab g tt w1 g1 tt1 te vs vs1 σd Qn (xs.drop (i + 1)) acc Mn,
      fun Hn ⟨Mn, ac, us', h1, h2⟩ => ⟨xs.length - (i + 1), by omega, Mn, ac, us', rfl, h1, h2⟩, fun xv H' y => ?_⟩
    obtain ⟨d, hd, rd, f', m'⟩ := ok.yld i Mc Hc xv H' fc mc hst hlt y
    rw [hx] at hd
    cases hd
    have p1 := f' p _ hc pc
    have F1 : Fr M H Mc H' := (f1.trans fc).trans f'
    refine ⟨x, wipeD σd vs, Mc, _, rd, ⟨a.b.trans F1, (a.s.keep (F1.keep a.m)).wipe vs, m'⟩, q, fun σ2d M2 σ2 H2 sm f2 s2 m2 q2 => ⟨sm.wipe hw, ?_⟩⟩
    have p2 := f2 p _ p1.1 p1.2
    have F2 := F1.trans f2
    refine LT.seq (B := B) ⟨a.b.trans F2, s2, m2⟩ q2 fun b M3 H3 f3 a3 q3 => ?_
    have p3 := f3 p _ p2.1 p2.2
    have F3 := F2.trans f3
    cases b with
    | true =>
      rw [if_pos rfl]
      refine ⟨σ2d, M3, _, a3, q3.1 rfl, fun ys pl vs2 M4 H4 f4 m4 hz4 rl4 q4 => ?_⟩
      have p4 := f4 p _ p3.1 p3.2
      have G4 : Fr M1 H1 M4 H4 := (((fc.trans f').trans f2).trans f3).trans f4
      have kc4 : KeepF Hc H4 := (((f'.trans f2).trans f3).trans f4).keep mc
      have s4 : RepS K H4 σ2d σ2 := a3.s.keep (f4.keep a3.m)
      refine ⟨fun j k Hk => ∃ Mk acc us, k = ys.length - j ∧ j ≤ ys.length ∧ Fr M1 H1 Mk Hk ∧ Mk p = none ∧ Hk p = some (.lst us) ∧ RepL K Hk acc us ∧ RepM K Mk Hk ∧ FzL K Hk pl vs2 ∧ RepL K Hk ys vs2 ∧ RepS K Hk σ2d σ2 ∧ lcD (fun _ => True) g1 tt1 te vs1 σ2d (fun acc M5 => lcD2 stab g tt w1 g1 tt1 te vs vs1 σd Qn (xs.drop (i + 1)) acc M5) (ys.drop j) acc Mk,
        ⟨ys.length, M4, acc, us, by simp, Nat.zero_le _, G4, p4.2, p4.1, rc.keep kc4, m4, hz4, rl4, s4, q4⟩, ?_⟩
      rintro j k Hk ⟨Mk, acc2, us2, rfl, hj, fk, pk, hk, rk, mk, hzk, rlk, sk, qk⟩
      rcases drop_cases (xs := ys) (i := j) with ⟨jlt, y1, hy, ed2⟩ | ⟨jge, ed2⟩
      · rw [ed2] at qk
        unfold lcD at qk
        obtain ⟨_, hsz, qk⟩ := qk
        have jl : j < vs2.length := by rw [← rlk.length]; exact jlt
        refine .inr ⟨⟨vs2, vs2[j], hzk.sql, by simp [jl]⟩, fun Hn => ∃ Mn acc us, j + 1 ≤ ys.length ∧ Fr M1 H1 Mn Hn ∧ Mn p = none ∧ Hn p = some (.lst us) ∧ RepL K Hn acc us ∧ RepM K Mn Hn ∧ FzL K Hn pl vs2 ∧ RepL K Hn ys vs2 ∧ RepS K Hn σ2d σ2 ∧ lcD (fun _ => True) g1 tt1 te vs1 σ2d (fun acc M5 => lcD2 stab g tt w1 g1 tt1 te vs vs1 σd Qn (xs.drop (i + 1)) acc M5) (ys.drop (j + 1)) acc Mn,
          fun Hn ⟨Mn, ac, us', h1, h2⟩ => ⟨ys.length - (j + 1), by omega, Mn, ac, us', rfl, h1, h2⟩, fun xv H' ⟨eH, yv⟩ => ?_⟩
        subst eH
        obtain ⟨d, hd, rd2⟩ := rlk.getV (yv vs2 hzk.sql)
        rw [hy] at hd
        cases hd
        have Fk : Fr M H Mk H' := f1.trans fk
        refine ⟨y1, wipeD σ2d vs1, Mk, _, rd2, ⟨a.b.trans Fk, sk.wipe vs1, mk⟩, qk, fun σ5d M5 σ5 H5 sm5 f5 s5 m5 q5 => ⟨sm5.wipe hw1, ?_⟩⟩
        have p5 := f5 p _ hk pk
        have F5 := Fk.trans f5
        refine LT.seq (B := B) ⟨a.b.trans F5, s5, m5⟩ q5 fun b M6 H6 f6 a6 q6 => ?_
        have p6 := f6 p _ p5.1 p5.2
        cases b with
        | true =>
          rw [if_pos rfl]
          refine LE.seq a6 (q6.1 rfl) fun dy M7 v7 H7 f7 a7 r7 q7 => ?_
          have p7 := f7 p _ p6.1 p6.2
          have G : Fr M1 H1 M7 H7 := ((fk.trans f5).trans f6).trans f7
          obtain ⟨g1', g2', g3'⟩ := hid_upd (u' := .lst (us2 ++ [v7])) G a7.m hp p7.2 p7.1 trivial
          have kc : KeepF H' H7 := ((f5.trans f6).trans f7).keep mk
          exact ⟨us2, p7.1, by rw [← rk.length]; exact hsz, M7, acc2 ++ [dy], us2 ++ [v7], jlt, g1', p7.2, upd_same, ((rk.keep kc).append (.cons r7 .nil)).keep g3', g2', g3'.fzl (kc.fzl hzk), (rlk.keep kc).keep g3', (sk.keep kc).keep g3', q7⟩
        | false =>
          rw [if_neg Bool.false_ne_true]
          have G : Fr M1 H1 M6 H6 := (fk.trans f5).trans f6
          have kc : KeepF H' H6 := (f5.trans f6).keep mk
          exact ⟨M6, acc2, us2, jlt, G, p6.2, p6.1, rk.keep kc, a6.m, kc.fzl hzk, rlk.keep kc, sk.keep kc, q6.2 rfl⟩
      · have e : j = ys.length := by omega
        subst e
        rw [ed2] at qk
        unfold lcD at qk
        obtain ⟨_, qk⟩ := qk
        exact .inl ⟨⟨vs2, hzk.sql, by rw [← rlk.length]; exact Nat.le_refl _⟩, Mk, acc2, us2, hlt, fk, pk, hk, rk, mk, qk⟩
    | false =>
      rw [if_neg Bool.false_ne_true]
      have G : Fr M1 H1 M3 H3 := ((fc.trans f').trans f2).trans f3
      exact ⟨M3, acc, us, hlt, G, p3.2, p3.1, rc.keep (((f'.trans f2).trans f3).keep mc), a3.m, q3.2 rfl⟩
  · have e : i = xs.length := by omega
    subst e
    rw [ed] at q
    unfold lcD2 at q
    obtain ⟨hst, q⟩ := q
    have h0 : ∀ u, H p = some u → M p = none → False := fun u e e2 => by
      have z := (f1 p u e e2).1
      rw [hp] at z
      cases z
    exact .inl ⟨ok.stop Mc Hc fc mc hst, p, us, acc, Mc, rfl, h0, hc, pc, f1.trans fc, mc, rc, q⟩
theorem repL_rng {H : Hp} : ∀ (k : Nat) (lo : Int), RepL K H (rngD lo k) ((List.range k).map fun i : Nat => V.int (lo + i))
  | 0, _ => .nil
  | k + 1, lo => by
    rw [List.range_succ_eq_map, List.map_cons, List.map_map]
    have ih := repL_rng (H := H) k (lo + 1)
    have e : ((fun i : Nat => V.int (lo + i)) ∘ Nat.succ) = fun i : Nat => V.int (lo + 1 + i) := by
      funext i
      show V.int (lo + ((i + 1 : Nat) : Int)) = _
      congr 1
      omega
    rw [e]
    refine .cons ?_ ih
    have : lo + ((0 : Nat) : Int) = lo := by omega
    rw [this]
    exact mk_int _
end
section
variable {X : Cx} {B : Bs} {pos : Pos}
theorem le_lc2 {fz : Bool} {elt tg iter tg1 iter1 : Expr} {ifs ifs1 : List Expr} {scope : Scope} {own : List (Str × Nat)} {tI : DI} {g g1 : DG} {tt tt1 : DT} {t1 te : DE} {ws ws1 own1 : List Nat} (hc : X.calm = true) (hN : X.N.Nodup) (hi : PI X tg iter (LI X.K B tI)) (ok : BlkOk X.N X.env.scope scope own)
    (hw : ∀ i ∈ ws, i ∈ own.map (·.2)) (hw1 : ∀ i ∈ ws1, i ∈ own1) (hv : ∀ i ∈ own1, i ∈ own.map (·.2)) (hg : AllBlk X scope fun Y => PG Y tg (LGw Y.K B ws g)) (ht : AllBlk X scope fun Y => PTs Y ifs (LT Y.K B tt)) (he : AllBlk X scope fun Y => PE Y elt (LE Y.K B te))
    (hi1 : AllBlk X scope fun Y => PE Y iter1 (LE Y.K B t1)) (hg1 : AllBlk X scope fun Y => PG Y tg1 (LGw Y.K B ws1 g1)) (ht1 : AllBlk X scope fun Y => PTs Y ifs1 (LT Y.K B tt1)) (hs : ∀ x, foldedSetIterable iter X.env x = pure x) (hs1 : ∀ env x, foldedSetIterable iter1 env x = pure x) :
    PE X (.ListComp elt [⟨tg, iter, ifs, 0⟩, ⟨tg1, iter1, ifs1, 0⟩] scope pos) (LE X.K B fun σ M Q => tI σ M fun xs stab M1 => lcD2 stab g tt (fzI t1) g1 tt1 te (own.map (·.2)) own1 σ (fun acc M2 => newL fz acc M2 Q) xs [] M1) := by
  refine pe_of fun pins s σ H σd M Qd I a t => ?_
  exact thn ((pe_lc2 (g := LGw X.K B ws g) (tt := LT X.K B tt) (wi1 := LF X.K B (fzI t1)) (g1 := LGw X.K B ws1 g1) (tt1 := LT X.K B tt1) (te := LE X.K B te) hc hN hi ok hv (fun s H C cl fp => hg s H C cl fp) (fun s H C cl fp => ht s H C cl fp) (fun s H C cl fp => li_fz (hi1 s H C cl fp)) (fun s H C cl fp => hg1 s H C cl fp) (fun s H C cl fp => ht1 s H C cl fp) (fun s H C cl fp => he s H C cl fp) hs hs1).run pins s σ H _ I (lc2_wish hw hw1 a t)) fun u s' ⟨v, H', I', rv, q⟩ => lc_done I' rv q
theorem ls_setLc2 {fz : Bool} {i : Nat} {y : Str} {py : Pos} {elt tg iter tg1 iter1 : Expr} {ifs ifs1 : List Expr} {scope : Scope} {own : List (Str × Nat)} {spos : Pos} {tI : DI} {g g1 : DG} {tt tt1 : DT} {t1 te : DE} {ws ws1 own1 : List Nat} (hc : X.calm = true) (hN : X.N.Nodup) (hy : X.N[i]? = some y) (hyl : X.env.scope.names.lookup y = some .local)
    (hsw : swapsWith (.ListComp elt [⟨tg, iter, ifs, 0⟩, ⟨tg1, iter1, ifs1, 0⟩] scope pos) (some (.Name y py)) spos.line X.env = pure true) (hi : PI X tg iter (LI X.K B tI)) (ok : BlkOk X.N X.env.scope scope own)
    (hw : ∀ i ∈ ws, i ∈ own.map (·.2)) (hw1 : ∀ i ∈ ws1, i ∈ own1) (hv : ∀ i ∈ own1, i ∈ own.map (·.2)) (hg : AllBlk X scope fun Y => PG Y tg (LGw Y.K B ws g)) (ht : AllBlk X scope fun Y => PTs Y ifs (LT Y.K B tt)) (he : AllBlk X scope fun Y => PE Y elt (LE Y.K B te))
    (hi1 : AllBlk X scope fun Y => PE Y iter1 (LE Y.K B t1)) (hg1 : AllBlk X scope fun Y => PG Y tg1 (LGw Y.K B ws1 g1)) (ht1 : AllBlk X scope fun Y => PTs Y ifs1 (LT Y.K B tt1)) (hs : ∀ x, foldedSetIterable iter X.env x = pure x) (hs1 : ∀ env x, foldedSetIterable iter1 env x = pure x) :
    PS X (.Assign [.Name y py] (.ListComp elt [⟨tg, iter, ifs, 0⟩, ⟨tg1, iter1, ifs1, 0⟩] scope pos) spos) (LS X.K B fun E σ M => tI σ M fun xs stab M1 => lcD2 stab g tt (fzI t1) g1 tt1 te (own.map (·.2)) own1 σ (fun acc M2 => newL fz acc M2 fun d M3 => E.nx (σ.set i (some d)) M3) xs [] M1) := by
  refine ⟨fun pins s σ H E I ⟨σd, M, Dd, a, t, k⟩ => ?_⟩
  have h := (ps_setLc2 (g := LGw X.K B ws g) (tt := LT X.K B tt) (wi1 := LF X.K B (fzI t1)) (g1 := LGw X.K B ws1 g1) (tt1 := LT X.K B tt1) (te := LE X.K B te) hc hN hy hyl hsw hi ok hv (fun s H C cl fp => hg s H C cl fp) (fun s H C cl fp => ht s H C cl fp) (fun s H C cl fp => li_fz (hi1 s H C cl fp)) (fun s H C cl fp => hg1 s H C cl fp) (fun s H C cl fp => ht1 s H C cl fp) (fun s H C cl fp => he s H C cl fp) hs hs1).run pins s σ H
    { nx := fun σ' H' => ∃ v, σ' = σ.set i (some v) ∧ LcEnd X.K M H (fun acc M2 => newL fz acc M2 fun d M3 => Dd.nx (σd.set i (some d)) M3) v H', rt := fun _ _ => False, bk := fun _ _ => False, ct := fun _ _ => False } I
  have key : ∀ {Q Q' : VK}, (∀ v H', Q v H' → Q' v H') → tLc2 (LI X.K B tI) (LGw X.K B ws g) (LT X.K B tt) (LF X.K B (fzI t1)) (LGw X.K B ws1 g1) (LT X.K B tt1) (LE X.K B te) (own.map (·.2)) own1 σ H Q → tLc2 (LI X.K B tI) (LGw X.K B ws g) (LT X.K B tt) (LF X.K B (fzI t1)) (LGw X.K B ws1 g1) (LT X.K B tt1) (LE X.K B te) (own.map (·.2)) own1 σ H Q' := by
    intro Q Q' hQ ⟨σd, M, Rd, a, t, k⟩
    refine ⟨σd, M, Rd, a, t, fun xs stab M' J H' f m o r p hp => ?_⟩
    obtain ⟨W, w0, turn⟩ := k xs stab M' J H' f m o r p hp
    refine ⟨W, w0, fun i m H w => ?_⟩
    rcases turn i m H w with ⟨h1, h2⟩ | h2
    · exact .inl ⟨h1, hQ _ _ h2⟩
    · exact .inr h2
  refine thn (h (key (fun v H' q => ⟨v, rfl, q⟩) (lc2_wish hw hw1 a t))) fun f s' hq => ?_
  cases f with
  | next =>
    obtain ⟨σ', H', I', v, e, q⟩ := hq
    subst e
    obtain ⟨d, M', H'', I2, f2, r2, m2, q2⟩ := lc_done0 I' q
    exact ⟨_, H'', I2, k.nx _ _ _ _ f2 ((a.s.keep (f2.keep a.m)).set i (show RelD X.K H'' (some d) (some v) from r2)) m2 q2⟩
  | ret v =>
    obtain ⟨_, _, _, _, _, q⟩ := hq
    exact q.elim
  | brk =>
    obtain ⟨_, _, _, q⟩ := hq
    exact q.elim
  | cont =>
    obtain ⟨_, _, _, q⟩ := hq
    exact q.elim
theorem le_lrange1 {fz : Bool} {a : Expr} {ta : DE} {p p2 pos2 : Pos} (hc : X.calm = true) (hg : Gl X "list") (hm : X.mg "list" = none) (hg2 : Gl X "range") (hm2 : X.mg "range" = none) (ha : PE X a (LE X.K B ta)) (hs : starEach [a] X.env = [(false, eval a X.env)]) :
    PE X (.Call (.Name "list" p) [.Call (.Name "range" p2) [a] [] pos2] [] pos) (LE X.K B fun σ M Q => ta σ M fun x M1 => ∃ j, x = .int j ∧ 0 ≤ j ∧ j ≤ 16777216 ∧ newL fz (rngD 0 j.toNat) M1 Q) := by
  refine pe_of fun pins s σ H σd M Qd I at' t => ?_
  refine thn ((pe_listRg hc hg hm (prg_1 hg2 hm2 ha hs)).run pins s σ H (fun v H' => ∃ q H1 M1 j, v = .ref q ∧ H1 q = none ∧ H' = upd H1 q (.lst (rgV 0 j)) ∧ Fr M H M1 H1 ∧ RepM X.K M1 H1 ∧ newL fz (rngD 0 j.toNat) M1 Qd) I ?_) fun u s' ⟨v, H', I', rv, q, H1, M1, j, e1, hq, e2, f1, m1, r⟩ => ?_
  · refine LE.seq at' t fun d M1 v H1 f1 a1 r1 ⟨j, e, h0, h1, q⟩ => ?_
    rw [e] at r1
    exact ⟨j, rep_int r1, RgOk.of_le (Int.le_refl 0) h1 (by omega) h0, fun p hp => ⟨p, H1, M1, j, rfl, hp, rfl, f1, a1.m, q⟩⟩
  · subst e1 e2
    cases rv
    have rl : RepL X.K H1 (rngD 0 j.toNat) (rgV 0 j) := by
      unfold rgV
      rw [Int.sub_zero]
      exact repL_rng _ _
    exact EPD.pre f1 (fin_newL I' hq m1 rl r)
theorem le_never {e : Expr} : PE X e (LE X.K B fun _ _ _ => False) := ⟨fun pins s σ H Q I ⟨_, _, _, _, t, _⟩ => t.elim⟩
end
end RX
set_option Elab.async false
set_option linter.all false
set_option maxRecDepth 100000
set_option maxHeartbeats 4000000
/-! RX10e: dict displays whose keys are texts; [*d] of a dict. -/
namespace RX
open PySem PySem.Spec PyProof.Rows L2
section
variable {X : Cx} {pins : List (Addr × Obj)} {σ : SV} {H : Hp} {s : Shared}
theorem vals_at : ∀ (l : List V) (us : List Value), l.length = us.length → (∀ (j : Nat) (v : V) (u : Value), l[j]? = some v → us[j]? = some u → RelV v u) → Vals l us
  | [], [], _, _ => .nil
  | v :: l, u :: us, e, h => .cons (h 0 v u rfl rfl) (vals_at l us (by simpa using e) fun j v u h1 h2 => h (j + 1) v u (by simpa using h1) (by simpa using h2))
  | [], _ :: _, e, _ => by simp at e
  | _ :: _, [], e, _ => by simp at e
theorem kv_get : ∀ {kvs : List (Key × V)} {vs : List (Key × Value)}, KV kvs vs → ∀ {j : Nat} {p : Key × V}, kvs[j]? = some p → ∃ q, vs[j]? = some q ∧ p.1 = q.1 := fun h => by
  unfold KV at h
  induction h with
  | nil => intro j p e; cases e
  | cons h1 h2 ih =>
    intro j p e
    cases j with
    | zero => cases e; exact ⟨_, rfl, h1.1⟩
    | succ j => exact ih (by simpa using e)
theorem zip_keys : ∀ (ks : List Str) (vs : List V), (ks.map V.str).zip vs = ((ks.map (Sum.inr : Str → Key)).zip vs).map (fun kv => (kV kv.1, kv.2))
  | [], _ => rfl
  | _ :: _, [] => rfl
  | k :: ks, v :: vs => by
    simp only [List.map_cons, List.zip_cons_cons, zip_keys ks vs]
    rfl
theorem rel_key {k : Key} {v : Value} (h : keyIs k v = true) : RelV (kV k) v := by
  rcases keyIs_shape h with ⟨i, t, rfl, rfl⟩ | ⟨x, t, rfl, rfl⟩
  · exact ⟨t, rfl⟩
  · exact ⟨t, rfl⟩
theorem star_dct {a : Addr} {kvs : List (Key × V)} {E : Value → Shared → Prop} {Q : List Value → Shared → Prop} (hh : X.A.handled = none) (I : Inv X pins σ H s) (e : Rd H a (.dK kvs)) (hQ : ∀ us s', Inv X pins σ H s' → Vals (kvs.map fun p => kV p.1) us → Q us s') : PySem.W.StarOf (model X.prog X.w) X.A E (.ref a) Q s := by
  obtain ⟨hz, lo, vs, kv, o, es, ep, ho, hc, hd, hk, hp, hn⟩ := dk_rd I.hok e
  have hT : s.TypeIs (.ref a) "dict" := ⟨o, ho, hc.1⟩
  have hl : kvs.length = vs.length := Paired.length kv
  have z : wpAny (model X.prog X.w) X.A (collect (.ref a)) Q E s := by
    unfold collect
    refine wpAny_bind (wpAny_runValue (codeAny_builtin F.entry_proto_collect ?_))
    rw [Around.under_plainId F.plain_proto_collect _]
    show wpAny _ X.A.in1 (newList [] >>= fun l => again (.builtin "list.__iadd__" ⟨[l, .ref a], []⟩)) _ _ s
    refine wpAny_bind (wpAny_newObj_type ?_)
    refine wpAny_pure ⟨plainId_quiet F.plain_list_iadd _, codeAny_builtin F.entry_list_iadd ?_⟩
    rw [Around.under_plainId F.plain_list_iadd _]
    show wpAny _ X.A.in1 (Builtin.List.listExtendWith (.ref s.heap.objs.size) (.ref a) (.ref s.heap.objs.size)) _ _ _
    have hS : (s.heap.push { cls := .type "list", data := .seq ([] : List Value).toArray }).get? s.heap.objs.size = some { cls := .type "list", data := .seq #[] 0 } := Heap.get?_push_size _ rfl
    have hne : s.heap.objs.size ≠ a := Nat.ne_of_gt (Heap.lt_size ho)
    have fin' : ∀ s' : Shared, (∃ h' tk acc' c', (∀ b o, b ≠ s.heap.objs.size → (s.heap.push { cls := .type "list", data := .seq ([] : List Value).toArray }).get? b = some o → h'.get? b = some o) ∧ h'.get? s.heap.objs.size = some { cls := .type "list", dict := none, data := .seq acc' c', slots := #[] } ∧
        ItemsOf (fun i v => ∃ k x, vs[i]? = some (k, x) ∧ (mixKind X.prog X.w).is k v = true) acc' vs.length ∧ s' = { s with heap := h', toks := tk }) → wpAny (model X.prog X.w) X.A (match Value.ref s.heap.objs.size with
        | Value.ref a => do
          match (← load a).data with
            | Data.seq xs _ => pure xs.toList
            | _ => unsupported "internal:collect"
        | _ => unsupported "internal:collect") Q E s' := fun s' ⟨h', tk, acc, c, k1, k2, it, e⟩ => by
      subst e
      show wpAny _ X.A (load s.heap.objs.size >>= _) _ _ _
      refine wpAny_bind (wpAny_load k2 (wpAny_pure ?_))
      refine hQ acc.toList _ (I.kept fun b o e => k1 b o (Nat.ne_of_lt (Heap.lt_size e)) (Heap.get?_push_of_some _ e)) (vals_at _ _ (by simp [it.1, hl]) fun j v u h1 h2 => ?_)
      obtain ⟨k, x, e1, e2⟩ := it.2 j u (by rw [← Array.getElem?_toList]; exact h2)
      rw [List.getElem?_map] at h1
      obtain ⟨p, hp1, rfl⟩ := Option.map_eq_some_iff.mp h1
      obtain ⟨q, hq, r1⟩ := kv_get kv hp1
      rw [hq] at e1
      cases e1
      rw [r1]
      exact rel_key e2
    refine wpAny_mono (PySem.W.kdl_extend (A := X.A) (R := fun r s' => r = .ok (.ret (.ref s.heap.objs.size)) ∧ ∃ h' tk acc' c', (∀ b o, b ≠ s.heap.objs.size → (s.heap.push { cls := .type "list", data := .seq ([] : List Value).toArray }).get? b = some o → h'.get? b = some o) ∧ h'.get? s.heap.objs.size = some { cls := .type "list", dict := none, data := .seq acc' c', slots := #[] } ∧
        ItemsOf (fun i v => ∃ k x, vs[i]? = some (k, x) ∧ (mixKind X.prog X.w).is k v = true) acc' vs.length ∧ s' = { s with heap := h', toks := tk })
      (s := { s with heap := s.heap.push { cls := .type "list", data := .seq ([] : List Value).toArray } })
      (PySem.W.kdl_dict (knd := mixKind X.prog X.w) (kvs := vs) (ep := ep) lo) hh ⟨o, es, Heap.get?_push_of_some _ ho, hc, hd, hk, hp, hn⟩ s.heap.objs.size hne hne (.ref s.heap.objs.size) 0 hS
      (fun h' tk acc' c' h1 h2 h3 => ⟨rfl, h', tk, acc', c', h1, h2, h3, rfl⟩) (by omega)) (fun fin s' h => ?_) (fun e s' h => ?_)
    · cases fin with
      | done f =>
        obtain ⟨e, h⟩ := h
        cases e
        exact fin' _ h
      | again c' => exact ⟨h.1, codeAny_mono h.2 fun r s'' hr => by obtain ⟨rfl, hr⟩ := hr; exact fin' _ hr⟩
    · exact absurd h.1 (by simp)
  unfold PySem.W.StarOf notIterableAtAll
  exact wpAny_bind (wpAny_specialOf hT PySem.F.slot_dict_iter.lookup (wpAny_pure ⟨rfl, z⟩))
end
section
variable {X : Cx} {B : Bs}
def tStarD (te : TE) (t : TA) : TA := fun σ H Q => te σ H fun x H1 => ∃ p kvs, x = V.ref p ∧ Rd H1 p (.dK kvs) ∧ t σ H1 fun ys H2 => Q ((kvs.map fun q => kV q.1) ++ ys) H2
theorem pa_starD {e : Expr} {es : List Expr} {te : TE} {t : TA} {p : Pos} (hh : X.A.handled = none) (he : PE X e te) (hr : PA X es t) : PA X (.Starred e p :: es) (tStarD te t) := by
  refine ⟨fun pos pins s σ H Q I h => ?_⟩
  refine PySem.W.items_star (thn (he.run pins s σ H _ I h) fun v s1 ⟨y, H1, I1, ry, a, xs, ey, hx, q⟩ => ?_) rfl
  subst ey
  obtain rfl : v = Value.ref a := ry
  refine star_dct hh I1 hx fun us s2 I2 rv => ?_
  exact thn (hr.run pos pins s2 σ H1 _ I2 q) fun ws s3 ⟨vs, H3, I3, r3, q3⟩ => ⟨_, H3, I3, rv.append r3, q3⟩
theorem keys_repL {K : PySem.W.Frag} {H : Hp} : ∀ (ks : List Key) (vs : List V), ks.length = vs.length → RepL K H (ks.map kD) ((ks.zip vs).map fun q => kV q.1)
  | [], _, _ => .nil
  | k :: ks, [], e => by simp at e
  | k :: ks, v :: vs, e => by
    refine .cons ?_ (keys_repL ks vs (by simpa using e))
    cases k with
    | inl i => exact mk_int i
    | inr z => exact mk_str z
theorem la_starD {e : Expr} {es : List Expr} {te : DE} {t : DA} {p : Pos} (hh : X.A.handled = none) (he : PE X e (LE X.K B te)) (hr : PA X es (LA X.K B t)) : PA X (.Starred e p :: es) (LA X.K B fun σ M Q => te σ M fun x M1 => ∃ ks ds, dcOf M1 x = some (ks, ds) ∧ t σ M1 fun xs M2 => Q (ks.map kD ++ xs) M2) :=
  (pa_starD hh he hr).imp fun σ H Q ⟨σd, M, Qd, a, tt, k⟩ => LE.seq a tt fun d1 M1 v1 H1 f1 a1 r1 ⟨ks, ds, e1, q1⟩ => by
    obtain ⟨b, vs, rfl, hs, hl, r2⟩ := dcOf_rep e1 r1 a1.m
    refine ⟨b, ks.zip vs, rfl, hs, σd, M1, _, a1, q1, fun es' M2 ws H2 f2 rr m2 q2 => ?_⟩
    exact k (ks.map kD ++ es') M2 _ H2 (f1.trans f2) ((keys_repL ks vs hl).append rr) m2 q2
/-- the pairs of a display -/
structure DsOk (X : Cx) (B : Bs) (ks : List Str) (l : List (Option Expr)) (m : List Expr) (t : DA) : Prop where
  ex : ∀ pos, ∃ trs, PPs X pos l m trs ∧ l.length = ks.length ∧ m.length = ks.length ∧ l.all (·.isSome) = true ∧ ∀ (σ : SV) (H : Hp) (σd : DSt) (M : MM) (Qd : List D → MM → Prop) (Q : List (V × V) → Hp → Prop), At X.K B H σd M σ → t σd M Qd →
    (∀ ds M' vs H', Fr M H M' H' → RepL X.K H' ds vs → RepM X.K M' H' → ds.length = ks.length → Qd ds M' → Q ((ks.map V.str).zip vs) H') → tPairs trs σ H Q
theorem ds_nil : DsOk X B [] [] [] (fun _ M Q => Q [] M) := ⟨fun pos => ⟨[], pps_nil, rfl, rfl, rfl, fun σ H σd M Qd Q a t k => k [] M [] H .refl .nil a.m rfl t⟩⟩
theorem ds_cons {z : Str} {j : Nat} {p : Pos} {v : Expr} {ks : List Str} {l : List (Option Expr)} {m : List Expr} {te : DE} {t : DA} (he : PE X v (LE X.K B te)) (hr : DsOk X B ks l m t) :
    DsOk X B (z :: ks) (some (.Constant (.str z) j p) :: l) (v :: m) (fun σ M Q => te σ M fun x M1 => t σ M1 fun xs M2 => Q (x :: xs) M2) := ⟨fun pos => by
  obtain ⟨trs, hP, h1, h2, h3, hw⟩ := hr.ex pos
  refine ⟨_, pps_cons pe_str he hP, by simp [h1], by simp [h2], by simpa using h3, fun σ H σd M Qd Q a tt k => ?_⟩
  show LE X.K B te σ H _
  refine LE.seq a tt fun d1 M1 v1 H1 f1 a1 r1 q1 => ?_
  refine hw σ H1 σd M1 _ _ a1 q1 fun ds M2 vs H2 f2 rl m2 hl q2 => ?_
  exact k (d1 :: ds) M2 (v1 :: vs) H2 (f1.trans f2) (.cons (r1.keep (f2.keep a1.m)) rl) m2 (by simp [hl]) q2⟩
theorem merge_nodup : ∀ (kvs acc : List (Key × V)), (acc.map (·.1) ++ kvs.map (·.1)).Nodup → mergeK acc kvs = acc ++ kvs
  | [], acc, _ => by unfold mergeK; simp
  | p :: r, acc, h => by
    have hp : ∀ q ∈ acc, q.1 ≠ p.1 := fun q hq e => by
      have := (List.nodup_append.mp h).2.2 q.1 (List.mem_map.mpr ⟨q, hq, rfl⟩) p.1 (by simp)
      exact this e
    have e1 : putK acc p.1 p.2 = acc ++ [p] := by
      unfold putK
      rw [if_neg]
      intro h
      obtain ⟨q, hq, hk⟩ := List.any_eq_true.mp h
      exact hp q hq (of_decide_eq_true hk)
    show mergeK (putK acc p.1 p.2) r = _
    rw [e1, merge_nodup r (acc ++ [p]) (by simpa [List.append_assoc] using h)]
    simp
theorem le_dcs {ks : List Str} {l : List (Option Expr)} {m : List Expr} {t : DA} {pos : Pos} (h : DsOk X B ks l m t) (nd : ks.Nodup) (h0 : ks ≠ []) (h15 : ks.length ≤ 15) : PE X (.Dict l m pos) (LE X.K B fun σ M Q => t σ M fun ds M1 => newD true (ks.map Sum.inr) ds M1 Q) := by
  obtain ⟨trs, hP, h1, h2, h3, hw⟩ := h.ex pos
  refine pe_of fun pins s σ H σd M Qd I a ht => ?_
  have hl0 : l ≠ [] := fun e => h0 (List.eq_nil_of_length_eq_zero (by rw [← h1, e]; rfl))
  refine thn ((pe_disp hP h3 (h1.trans h2.symm) hl0 (by omega)).run pins s σ H (DcEnd X.K M H fun ks acc M2 => newD true ks acc M2 Qd) I fun p hp => ?_) fun u s' ⟨v, H', I', rv, q⟩ => dc_done I' rv q
  have a' : At X.K B (upd H p (.dK [])) σd M σ := a.go (.hid hp) (a.m.hid hp)
  refine hw σ _ σd M _ _ a' ht fun ds M' vs H' f rl m' hl q => ?_
  have mp : M p = none := a.m.free hp
  obtain ⟨e1, e2⟩ := f p _ upd_same mp
  have hlv : ks.length = vs.length := by rw [← hl]; exact rl.length
  have ek := zip_keys ks vs
  have em : mergeK [] ((ks.map (Sum.inr : Str → Key)).zip vs) = (ks.map (Sum.inr : Str → Key)).zip vs := by
    rw [merge_nodup _ [] ?_, List.nil_append]
    rw [List.map_nil, List.nil_append]
    have e3 : ((ks.map (Sum.inr : Str → Key)).zip vs).map (·.1) = ks.map Sum.inr := List.map_fst_zip (by rw [List.length_map]; omega)
    rw [e3]
    exact List.Pairwise.map _ (fun a b hne e => hne (Sum.inr.inj e)) nd
  refine ⟨e1, (ks.map (Sum.inr : Str → Key)).zip vs, ek, by rw [List.length_zip, List.length_map]; omega, ?_⟩
  rw [em]
  have F : Fr M H M' H' := fun b u e2 m2 => f b u (by rw [upd_ne (ne_of_none e2 hp)]; exact e2) m2
  obtain ⟨g1, g2, g3⟩ := hid_upd (u' := .dK ((ks.map (Sum.inr : Str → Key)).zip vs)) F m' hp e2 e1 trivial
  refine ⟨p, vs, ks.map Sum.inr, ds, M', rfl, fun u (e : H p = some u) _ => absurd (hp.symm.trans e) (fun z => nomatch z), upd_same, by rw [List.length_map]; exact hlv, e2, g1, g2, rl.keep g3, q⟩
end
end RX
set_option Elab.async false
set_option linter.all false
set_option maxRecDepth 100000
set_option maxHeartbeats 4000000
/-! XC3: exceptions that are values: made, their fields read, looked at by isinstance. -/
namespace RX
open PySem PySem.Spec PyProof.Rows L2

def XcAt (prog : Program) (K : PySem.W.Frag) (C f : Str) : Prop := ∃ fI cc cda, XcF prog K (He.ga K C) fI cc cda f
section
variable {X : Cx} {B : Bs} {pins : List (Addr × Obj)} {σ : SV} {H : Hp} {s : Shared} {M : MM}
/-- the new exception is a value -/
theorem xnew_val {C f : Str} {v : V} {u : Value} {s' : Shared} {x : D} {Qd : DV} (h : XNew X pins σ H (He.ga X.K C) f v u s') (m : RepM X.K M H) (r : Rep X.K H x v) (q : Qd (.exc C f x) M) : EPD X pins σ M H Qd u s' := by
  obtain ⟨a, dx, t, o, G, rfl, ha, hd, ne, J, k, ge, he⟩ := h
  have na : upd H dx (.frz o (.xd [(f, v)])) a = none := by rw [upd_ne (Ne.symm ne)]; exact ha
  have J2 := J.laidN (a := a) (o := .frz (xObj (He.ga X.K C) dx t) (.own a)) (h' := s'.heap) (t' := s'.toks) k ge na ⟨he, ⟨_, he⟩⟩
  have m1 := m.hid (o := .frz o (.xd [(f, v)])) hd
  refine ⟨.exc C f x, M, .ref a, _, J2, rfl, (Fr.hid hd).trans (Fr.hid na), ?_, m1.hid na, q⟩
  unfold Rep
  refine ⟨a, dx, v, rfl, ⟨_, _, _, upd_same, rfl, rfl, rfl⟩, ⟨o, ?_⟩, (r.keep (.new hd)).keep (.new na)⟩
  rw [upd_ne ne]
  exact upd_same
theorem le_mkx {C f : Str} {e : Expr} {te : DE} {p pos : Pos} (T : XcAt X.prog X.K C f) (hr : Room 1 X.A) (hS : X.mg "super" = none) (hg : Gl X C) (hm : X.mg C = some (.ref (He.ga X.K C))) (ha : PE X e (LE X.K B te)) (hdb : (C == ("__debug__" : Str)) = false) (hst : starEach [e] X.env = (false, eval e X.env) :: starEach [] X.env) :
    PE X (.Call (.Name C p) [e] [] pos) (LE X.K B fun σ M Q => te σ M fun x M1 => Q (.exc C f x) M1) := by
  obtain ⟨fI, cc, cda, F⟩ := T
  have hA : PA X [e] (LA X.K B (fun σ M Q => te σ M fun d M1 => (fun (_ : DSt) M Q => Q [] M) σ M1 fun xs M2 => Q (d :: xs) M2)) := la_cons ha la_nil hst
  have hany : (starEach [e] X.env).any (·.1) = false := by rw [hst]; rfl
  refine pe_of fun pins s σ H σd M Qd I a ht => ?_
  refine wpAny_Call_Name_kw (ld_glob I hg hm ?_ hdb)
  have ht2 : te σd M fun d M1 => ∃ x, [d] = [x] ∧ Qd (.exc C f x) M1 := by
    have e : (fun d M1 => ∃ x, [d] = [x] ∧ Qd (.exc C f x) M1) = fun d M1 => Qd (.exc C f d) M1 := by
      funext d M1
      exact propext ⟨fun ⟨x, h, q⟩ => by cases h; exact q, fun q => ⟨d, rfl, q⟩⟩
    rw [e]
    exact ht
  refine PySem.W.callWith_of (by rw [any_back hany]; rfl) (PySem.W.keeps_K F.oc.kC) (evalArgs_gen (any_back hany) (thn (la_run hA I a (Qd := fun ds M1 => ∃ x, ds = [x] ∧ Qd (.exc C f x) M1) ht2 pos) fun us s1 ⟨ds, M1, vs, H1, I1, rv, f1, rl, m1, x, e, q⟩ => ⟨I1.kIn, ?_⟩))
  subst e
  obtain ⟨v, vr, rfl, r1, r2⟩ := rl.cons_inv
  cases r2.nil_inv
  obtain ⟨u, rfl, ru⟩ : ∃ u, us = [u] ∧ RelV v u := by
    cases rv with
    | cons h t => cases t; exact ⟨_, rfl, h⟩
  exact thn (xmk_call (v := v) (f := f) F I1 hS hr ru) fun w s' h => (xnew_val h m1 r1 q).pre f1
/-- e.f, e an exception that keeps f -/
theorem le_xfld {f : Str} {e : Expr} {te : DE} {pos : Pos} {ok : Str → Prop} (T : ∀ C, ok C → XbF X.K (He.ga X.K C) ∧ PySem.W.findIn X.K (.ref (He.ga X.K C)) f = some none) (ho : PE X e (LE X.K B te)) (hb : attributeBase e f X.env (eval e X.env) = eval e X.env) :
    PE X (.Attribute e f pos) (LE X.K B fun σ M Q => te σ M fun y M1 => ∃ C d, y = .exc C f d ∧ ok C ∧ Q d M1) := by
  refine pe_of fun pins s σ H σd M Qd I a ht => ?_
  refine attr_of hb (thn (RX.PE.at ho I a ht) fun u s1 ⟨y, M1, v, H1, I1, rv, f1, ry, m1, C, d, e, hk, q⟩ => ?_)
  subst e
  obtain ⟨b, hno⟩ := T C hk
  unfold Rep at ry
  obtain ⟨p, dx, z, rfl, ⟨o, w, vs, ho, h1, h2, h3⟩, ⟨od, hd⟩, rz⟩ := ry
  obtain rfl : u = Value.ref p := rv
  have oa : s1.heap.get? p = some o := (I1.hok p _ ho).1
  obtain ⟨hod, mA, hns, hr⟩ := I1.hok dx _ hd
  obtain ⟨od', ho', hl⟩ := lookIn_ns hns
  rw [hod] at ho'
  cases ho'
  have hz : ([(f, z)] : List (Str × V)).lookup f = some z := by simp [List.lookup]
  obtain ⟨u, hu, ru⟩ := RelO.some_of (v := z) (o := mA f) (by rw [← hz]; exact hr f)
  have J : PySem.W.InstAt s1.heap p o (He.ga X.K C) (some od) := ⟨oa, h1, by unfold PySem.W.notCls; rw [h3] <;> rfl, by rw [h2]; exact hod⟩
  exact HandSPX.exc_get I1.kIn J b.xf.ga b.xf.gg b.xf.exC (PySem.W.findObj_own b.xf.hdC hno rfl (by rw [hl, hu])) (handed_of ru) ⟨d, M1, z, H1, I1.tok _, ru, f1, rz, m1, q⟩
/-! ### isinstance -/
theorem xc_kit {x : D} {C : Str} {v : V} {H : Hp} {s : Shared} (I : Inv X pins σ H s) (b : XbF X.K (He.ga X.K C)) (e : xcls x = some C) (r : Rep X.K H x v) : ∃ (p : Addr) (o : Obj) (od : Option Obj), v = .ref p ∧ PySem.W.InstAt s.heap p o (He.ga X.K C) od ∧
    PySem.W.KitX X.K (.ref p) (.ref (He.ga X.K C)) (fun h => PySem.W.InstAt h p o (He.ga X.K C) od) := by
  cases x with
  | exc C' f d =>
    cases e
    unfold Rep at r
    obtain ⟨p, dx, z, rfl, ⟨o, w, vs, ho, h1, h2, h3⟩, ⟨od, hd⟩, rz⟩ := r
    have oa : s.heap.get? p = some o := (I.hok p _ ho).1
    have hod := (I.hok dx _ hd).1
    exact ⟨p, o, some od, rfl, ⟨oa, h1, by unfold PySem.W.notCls; rw [h3] <;> rfl, by rw [h2]; exact hod⟩, PySem.W.kitx_exc b.hcl b.xf.ga b.xf.gg b.xf.exC b.ha b.hn b.ht b.hm⟩
  | exn C' =>
    cases e
    unfold Rep at r
    obtain ⟨p, rfl, ⟨o, w, vs, ho, h1, h2, h3⟩⟩ := r
    have oa : s.heap.get? p = some o := (I.hok p _ ho).1
    exact ⟨p, o, none, rfl, ⟨oa, h1, by unfold PySem.W.notCls; rw [h3] <;> rfl, by rw [h2]; trivial⟩, PySem.W.kitx_exc b.hcl b.xf.ga b.xf.gg b.xf.exC b.ha b.hn b.ht b.hm⟩
  | _ => cases e
/-- isinstance(e, c), c one class -/
def rIsX (K : PySem.W.Frag) (ok : Str → Prop) : List V → Hp → VK → Prop := fun xs H Q => ∃ (x : D) (C : Str) (v c : V) (cv : Value) (b : Bool), xs = [v, c] ∧ xcls x = some C ∧ ok C ∧ Rep K H x v ∧ (∀ u, RelV c u → u = cv) ∧ PySem.W.kitOne K (.ref (He.ga K C)) cv = some b ∧ Q (.bl b) H
theorem call_isX {ok : Str → Prop} (T : ∀ C, ok C → XbF X.K (He.ga X.K C)) : CallR X (.builtin "isinstance") (rIsX X.K ok) := by
  intro pins s σ H xs us Q I r h
  obtain ⟨x, C, v, c, cv, b, rfl, ex, hk, rx, hc, hb, q⟩ := h
  obtain ⟨p, o, od, rfl, J, Z⟩ := xc_kit I (T C hk) ex rx
  cases r with
  | cons rv rr =>
    cases rr with
    | cons rt rr =>
      cases rr
      cases rv
      cases hc _ rt
      exact PySem.W.kia_one Z I.kIn J hb (fun z => nomatch z) fun tk => ⟨.bl b, H, I.kept (t' := tk) fun _ _ z => z, rfl, q⟩
/-- .. c a tuple of built-in classes -/
def rIsXT (K : PySem.W.Frag) (ok : Str → Prop) (ns : List String) : List V → Hp → VK → Prop := fun xs H Q => ∃ (x : D) (C : Str) (v : V) (t : Addr) (b : Bool), xs = [v, .ref t] ∧ xcls x = some C ∧ ok C ∧ Rep K H x v ∧ H t = some (.tup (ns.map V.ty)) ∧ PySem.W.kitAny K (.ref (He.ga K C)) (ns.map Value.type) = some b ∧ Q (.bl b) H
theorem ty_vals {ns : List String} : ∀ {us : List Value}, Vals (ns.map V.ty) us → us = ns.map Value.type := by
  induction ns with
  | nil => intro us h; cases h; rfl
  | cons n ns ih =>
    intro us h
    cases h with
    | cons a t =>
      rw [ih t]
      cases a
      rfl
theorem call_isXT {ok : Str → Prop} {ns : List String} (T : ∀ C, ok C → XbF X.K (He.ga X.K C)) : CallR X (.builtin "isinstance") (rIsXT X.K ok ns) := by
  intro pins s σ H xs us Q I r h
  obtain ⟨x, C, v, t, b, rfl, ex, hk, rx, ht, hb, q⟩ := h
  obtain ⟨p, o, od, rfl, J, Z⟩ := xc_kit I (T C hk) ex rx
  cases r with
  | cons rv rr =>
    cases rr with
    | cons rt rr =>
      cases rr
      cases rv
      cases rt
      obtain ⟨_, its, hv, ot, ec, en, n, et⟩ := I.hok t _ ht
      have e2 := ty_vals hv
      subst e2
      obtain ⟨c1, c2, c3, c4⟩ := ot
      dsimp only at en et
      subst en et
      exact PySem.W.kia_tup Z I.kIn J ec hb (fun z => nomatch z) fun tk => ⟨.bl b, H, I.kept (t' := tk) fun _ _ z => z, rfl, q⟩
/-- the classes that isinstance is asked for: own ones, built-in ones -/
theorem le_xis {ok : Str → Prop} {tab : Str → Option Bool} {pf pos : Pos} {e t : Expr} {te : DE} {c : V} {cv : Value} (T : ∀ C, ok C → XbF X.K (He.ga X.K C)) (hK : ∀ C b, tab C = some b → ok C ∧ PySem.W.kitOne X.K (.ref (He.ga X.K C)) cv = some b) (hc : ∀ u, RelV c u → u = cv)
    (hg : Gl X "isinstance") (hm : X.mg "isinstance" = none) (ha : PE X e (LE X.K B te)) (ht : PE X t (tC c)) (h1 : starEach [e, t] X.env = (false, eval e X.env) :: starEach [t] X.env) (h2 : starEach [t] X.env = (false, eval t X.env) :: starEach [] X.env) :
    PE X (.Call (.Name "isinstance" pf) [e, t] [] pos) (LE X.K B (VT fun σ M Q => te σ M fun y M1 => ∃ C b, xcls y = some C ∧ tab C = some b ∧ Q b M1)) := by
  refine (pe_callB (call_isX T) hg hm PyProof.Rows.boot_isinstance (pa_cons ha (pa_cons ht pa_nil h2) h1) (by decide) (by decide) h1 (by rw [h2]; rfl)).imp fun σ H Q ⟨σd, M, Qd, a, tt, kk⟩ => ?_
  refine LE.seq a tt fun y M1 v H1 f1 a1 r1 ⟨C, b, ex, eb, q⟩ => ?_
  obtain ⟨hk, kb⟩ := hK C b eb
  exact ⟨y, C, v, c, cv, b, rfl, ex, hk, r1, hc, kb, kk _ M1 _ H1 f1 (mk_bl _) a1.m q⟩
theorem le_xisT {ok : Str → Prop} {tab : Str → Option Bool} {pf pos tp : Pos} {kt : Nat} {e : Expr} {ts : List Expr} {te : DE} {ns : List String} (T : ∀ C, ok C → XbF X.K (He.ga X.K C)) (hK : ∀ C b, tab C = some b → ok C ∧ PySem.W.kitAny X.K (.ref (He.ga X.K C)) (ns.map Value.type) = some b)
    (hg : Gl X "isinstance") (hm : X.mg "isinstance" = none) (ha : PE X e (LE X.K B te)) (ht : PA X ts (fun _ H Q => Q (ns.map V.ty) H)) (hl : ns.length ≤ 1000) (h1 : starEach [e, .Tuple ts kt tp] X.env = (false, eval e X.env) :: starEach [.Tuple ts kt tp] X.env) (h2 : starEach [.Tuple ts kt tp] X.env = (false, eval (.Tuple ts kt tp) X.env) :: starEach [] X.env) :
    PE X (.Call (.Name "isinstance" pf) [e, .Tuple ts kt tp] [] pos) (LE X.K B (VT fun σ M Q => te σ M fun y M1 => ∃ C b, xcls y = some C ∧ tab C = some b ∧ Q b M1)) := by
  refine (pe_callB (call_isXT (ns := ns) T) hg hm PyProof.Rows.boot_isinstance (pa_cons ha (pa_cons (pe_tup ht) pa_nil h2) h1) (by decide) (by decide) h1 (by rw [h2]; rfl)).imp fun σ H Q ⟨σd, M, Qd, a, tt, kk⟩ => ?_
  refine LE.seq a tt fun y M1 v H1 f1 a1 r1 ⟨C, b, ex, eb, q⟩ => ?_
  obtain ⟨hk, kb⟩ := hK C b eb
  refine ⟨by rw [List.length_map, sizeLine_eq]; omega, fun p hp => ?_⟩
  have k1 : KeepF H1 (upd H1 p (.tup (ns.map V.ty))) := .new hp
  exact ⟨y, C, v, p, b, rfl, ex, hk, r1.keep k1, upd_same, kb, kk _ M1 _ _ (f1.trans (.hid hp)) (mk_bl _) (a1.m.hid hp) q⟩
/-- C(), C an exception class without an __init__ of its own -/
theorem le_mkx0 {C : Str} {p pos : Pos} (q : PySem.W.excIn X.K (He.ga X.K C) He.veBase "ValueError.__new__" = true) (kC : PySem.W.keepIn X.K (.ref (He.ga X.K C)) = true) (hg : Gl X C) (hm : X.mg C = some (.ref (He.ga X.K C))) (hdb : (C == ("__debug__" : Str)) = false) :
    PE X (.Call (.Name C p) [] [] pos) (LE X.K B fun σ M Q => Q (.exn C) M) := by
  refine pe_of fun pins s σ H σd M Qd I a ht => ?_
  refine wpAny_Call_Name_kw (ld_glob I hg hm ?_ hdb)
  refine PySem.W.callWith_K0 I.kIn kC ?_
  show wpAny _ _ (call (.ref (He.ga X.K C)) []) _ _ _
  obtain ⟨bm, N, nm, qn, bs, hdct, sn, sub, ab, col, dd, k0, k1, k2, k3, k5, mN, hC, hN, hni, T⟩ := exc_obj I.kIn q
  refine wpAny_call_exc_subT PySem.F.excBase_ValueError T hC hN hni (fun h' e hx => ?_) (Nat.zero_le _)
  have hn : H e = none := I.hok.gone hx.new
  obtain ⟨t, et, _, _⟩ := hx.there
  have J := I.laidN (o := .frz (HandSPX.excO (He.ga X.K C) t) (.own e)) (t' := s.toks) hx.keeps hx.new hn ⟨et, ⟨_, et⟩⟩
  refine ⟨.exn C, M, .ref e, _, J, rfl, .hid hn, ?_, a.m.hid hn, ht⟩
  unfold Rep
  exact ⟨e, rfl, _, _, _, upd_same, rfl, rfl, rfl⟩
end
end RX
set_option Elab.async false
set_option linter.all false
set_option maxRecDepth 100000
set_option maxHeartbeats 4000000
/-! XC4: C(f=x). -/
namespace RX
open PySem PySem.Spec PyProof.Rows L2 HandSPX Builtin Builtin.ObjectAttr
section
variable {prog : Program} {w : World} {A : Around} {E : Value → Shared → Prop} {R : Result → Shared → Prop} {h : Heap} {g : Array GenState} {d : Drawn} {t : Nat} {os : OsState}
variable {nm q : Str} {C N : Addr} {bs bm bmB : List Value} {hdct : Bool} {sn : List Str} {sub : List Value} {ab : Bool} {col : Option Bool} {dd : Option Addr} {k0 k1 k2 k3 k5 : Option Value} {B newId initId : String}
theorem xk_check {M : Model} (F : ExcBaseFacts B newId initId bmB) (hT : ∀ X : String, bm.contains (.type X) = bmB.contains (.type X)) {kw : List (Str × Value)} {Q : Unit → Shared → Prop}
    (hC : h.get? C = some (excClassObj nm q C N bs bm hdct sn sub ab col dd k0 k1 k2 k3 k5 newId)) (hq : Q () ⟨h, g, d, t, os⟩) : wpAny M A (checkBuiltinCall newId ⟨[.ref C], kw⟩) Q E ⟨h, g, d, t, os⟩ := by
  have hB : (Value.ref C :: bm).contains (.type B) = true := by rw [List.contains_cons, hT, F.hasB, Bool.or_true]
  have hs := F.noStar
  simp only [checkBuiltinCall, F.newKind, F.newSplit, F.newRow]
  repeat (first
    | refine wpAny_loadPart_at hC ?_ | (refine wpAny_isSubtype_exc hC ?_; rw [hB])
    | refine wpAny_staticBase_exc hC ?_ | refine wpAny_madeBy_exc hC ?_
    | simp only [bne_self_eq_false, Bool.false_eq_true, if_false] | wp_step)
  exact hq
theorem xk_new (F : ExcBaseFacts B newId initId bmB) (hT : ∀ X : String, bm.contains (.type X) = bmB.contains (.type X)) {kw : List (Str × Value)}
    (hC : h.get? C = some (excClassObj nm q C N bs bm hdct sn sub ab col dd k0 k1 k2 k3 k5 newId)) (hq : R (.ok (.ret (.ref (h.objs.size + 1)))) ⟨(h.push (PySem.W.kdv_tup [])).push (excO C h.objs.size), g, d, t, os⟩) :
    codeAny (model prog w) A (.builtin newId ⟨[.ref C], kw⟩) R ⟨h, g, d, t, os⟩ := by
  have hA : ∀ b : Bool, ∀ T : String, bmB.contains (.type T) = b → (Value.ref C :: bm).contains (.type T) = b := fun b T e => by rw [List.contains_cons, hT, e]; cases b <;> rfl
  have e1 := hA _ _ F.hasB
  have e2 := hA _ _ F.noAttr
  have e3 := hA _ _ F.noName
  have he := F.ends
  refine codeAny_builtinAt F.entry ?_
  unfold Builtin.«BaseException.__new__»
  refine PySem.wpAt_bind (show PySem.wpAt _ _ _ (stack >>= _) _ _ _ from PySem.wpAt_bind (PySem.wpAt_stack fun p below => PySem.wpAt_of_wpAny ?_))
  wp_walk
  refine PySem.wpAt_of_wpAny ?_
  rw [F.owner]
  repeat (first
    | with_reducible refine wpAny_madeHere_exc F.canon hC ?_
    | with_reducible refine wpAny_loadPart_at hC ?_
    | (with_reducible refine wpAny_isSubtype_exc hC ?_; first | rw [e1] | rw [e2] | rw [e3])
    | wp_step)
  show R _ _
  rw [Heap.size_push]
  exact hq
theorem xk_type (F : ExcBaseFacts B newId initId bmB) (hT : ∀ X : String, bm.contains (.type X) = bmB.contains (.type X)) {kw : List (Str × Value)} {fI : Addr} {Q : Fin → Shared → Prop}
    (hC : h.get? C = some (excClassObj nm q C N bs bm hdct sn sub ab col dd k0 k1 k2 k3 k5 newId)) (hi : PySem.W.Looks (model prog w) h (typeLookup (.ref C) "__init__") (some (.ref fI))) (hb : ∀ self, PySem.W.Looks (model prog w) h (bindSpecial (.ref fI) self) (.ref fI, [self]))
    (hq : codeAny (model prog w) A (.call (.ref fI) ⟨[.ref (h.objs.size + 1)], kw⟩)
      (fun r s' => match r with | .ok (.ret v) => v = .none ∧ Q (.done (.ret (.ref (h.objs.size + 1)))) s' | .ok _ => False | .error e => E e s') ⟨(h.push (PySem.W.kdv_tup [])).push (excO C h.objs.size), g, d, t, os⟩) :
    wpAny (model prog w) A (Builtin.«type.__call__» ⟨[.ref C], kw⟩) Q E ⟨h, g, d, t, os⟩ := by
  have k : ∀ b o, h.get? b = some o → ((h.push (PySem.W.kdv_tup [])).push (excO C h.objs.size)).get? b = some o := fun b o e => Heap.get?_push_of_some _ (Heap.get?_push_of_some _ e)
  have hg : ((h.push (PySem.W.kdv_tup [])).push (excO C h.objs.size)).get? (h.objs.size + 1) = some (excO C h.objs.size) := by heap_get
  have hC2 := k _ _ hC
  have hcc : (Value.ref C :: bm).contains (.ref C) = true := by simp
  have i1 := hi.keeps k
  have b1 := (hb (.ref (h.objs.size + 1))).keeps k
  repeat (first | with_reducible refine wpAny_loadPart_at hC ?_ | with_reducible refine wpAny_madeBy_exc hC ?_ | wp_step)
  refine codeAny_call_builtin_code (Code.quiet_builtin _ F.quiet) (xk_check F hT hC ?_)
  refine xk_new F hT hC ?_
  show PySem.wpAny _ _ _ _ _ _
  unfold isInstance
  repeat (first | with_reducible refine wpAny_loadPart_at hg ?_ | (with_reducible refine wpAny_isSubtype_exc hC2 ?_; rw [hcc]) | wp_step)
  show PySem.wpAny _ _ (typeLookup (.ref C) _) _ _ _
  refine i1.at (wpAny_holding (wpAny_bind (b1.at ?_)))
  refine wpAny_bind (wpAny_call (codeAny_mono hq fun r s' z => ?_))
  rcases r with e | (v | _ | _ | _) <;> first | exact z | exact z.elim | skip
  obtain ⟨rfl, z⟩ := z
  first
    | exact wpAny_pure (wpAny_pure z)
    | (wp_walk; exact z)
theorem xk_call (F : ExcBaseFacts B newId initId bmB) (hT : ∀ X : String, bm.contains (.type X) = bmB.contains (.type X)) {kw : List (Str × Value)} {fI : Addr}
    (hC : h.get? C = some (excClassObj nm q C N bs bm hdct sn sub ab col dd k0 k1 k2 k3 k5 newId)) (hi : PySem.W.Looks (model prog w) h (typeLookup (.ref C) "__init__") (some (.ref fI))) (hb : ∀ self, PySem.W.Looks (model prog w) h (bindSpecial (.ref fI) self) (.ref fI, [self]))
    (hq : codeAny (model prog w) (A.under (.builtin "type.__call__" ⟨[.ref C], kw⟩)) (.call (.ref fI) ⟨[.ref (h.objs.size + 1)], kw⟩) (PySem.W.InitBack (h.objs.size + 1) R) ⟨(h.push (PySem.W.kdv_tup [])).push (excO C h.objs.size), g, d, t, os⟩) :
    codeAny (model prog w) A (.call (.ref C) ⟨[], kw⟩) R ⟨h, g, d, t, os⟩ := by
  have f1 := tc_lookup
  have f2 := tc_bind (.ref C)
  have hy : (⟨h, g, d, t, os⟩ : Shared).TypeIs (.ref C) "type" := ⟨_, hC, rfl⟩
  refine codeAny_of_tree (show PySem.wpAny _ _ (callAny (.ref C) _) _ _ _ from ?_)
  repeat (any_goals (first | assumption | with_reducible refine wpAny_loadPart_at hC ?_ | wp_step))
  refine ⟨rfl, codeAny_call_builtin_at (Code.quiet_builtin _ (by decide +kernel)) entry_typeCall ?_⟩
  refine wpAny_check_type_call_sub hC (xk_type F hT hC hi hb ?_)
  refine codeAny_mono hq fun r s' z => ?_
  rcases r with e | (v | _ | _ | _) <;> exact z
end
section
variable {X : Cx} {pins : List (Addr × Obj)} {σ : SV} {H : Hp} {s : Shared} {c fI cc cda : Addr} {f : Str} {v : V} {u : Value}
theorem xmk_callk (F : XcF X.prog X.K c fI cc cda f) (I : Inv X pins σ H s) (hm : X.mg "super" = none) (hr : Room 1 X.A) (rv : RelV v u) : wpAny (model X.prog X.w) X.A (call (.ref c) [] [(f, u)]) (XNew X pins σ H c f v) X.xe s := by
  obtain ⟨nm, q, N, bs, bm, sn, sub, ab, col, dd, k0, k1, k2, k3, k5, hC, hbm⟩ := F.oc.cls
  have Rm := hr.make c [] [(f, u)]
  obtain ⟨hp, g, dr, tk, os⟩ := s
  have kk : ∀ b o, hp.get? b = some o → ((hp.push (PySem.W.kdv_tup [])).push (HandSPX.excO c hp.objs.size)).get? b = some o := fun b o e => Heap.get?_push_of_some _ (Heap.get?_push_of_some _ e)
  have hget : ((hp.push (PySem.W.kdv_tup [])).push (HandSPX.excO c hp.objs.size)).get? (hp.objs.size + 1) = some (HandSPX.excO c hp.objs.size) := by heap_get
  have KI := I.kIn
  obtain ⟨mb, G2, hmb⟩ := I.mod.blt
  have bk : ∀ b o, X.base.get? b = some o → ((hp.push (PySem.W.kdv_tup [])).push (HandSPX.excO c hp.objs.size)).get? b = some o := fun b o e => kk b o (I.bk b o e)
  refine wpAny_call (xk_call PySem.F.excBase_ValueError (fun Y => HandSPX.refsVE_contains Y bm hbm) (KI _ _ hC) (PySem.W.looks_findIn KI F.iC) (fun self => PySem.W.bind_fn KI self F.tI)
    (xi_run F (KI.keeps kk) (I.mod.glob.keeps bk) hm (G2.keeps bk) ((hmb _ (by decide)).trans (by decide +kernel)) (I.nolimit.keeps kk) Rm.depth hget (fun {o} z => ?_) (fun h' tk' dx t1 k4 sz dne hx' hn => ⟨rfl, ?_⟩) _ (.inr rfl)))
  · exact absurd (Heap.lt_size (KI _ _ z)) (by show ¬ hp.objs.size + 1 < hp.objs.size; omega)
  · have ssz : ((hp.push (PySem.W.kdv_tup [])).push (HandSPX.excO c hp.objs.size)).objs.size = hp.objs.size + 1 + 1 := by rw [Heap.size_push, Heap.size_push]
    rw [ssz] at sz
    exact xnew_of (s := ⟨hp, g, dr, tk, os⟩) I rfl rfl rv (Nat.le_succ _) (Nat.le_trans (by show hp.objs.size ≤ hp.objs.size + 1 + 1; omega) sz) dne (fun b o e => k4 b o (Nat.ne_of_lt (Nat.lt_succ_of_lt (Heap.lt_size e))) (kk b o e)) hx' hn
end
section
variable {X : Cx} {B : Bs}
theorem le_mkxk {C f : Str} {e : Expr} {te : DE} {p pos kp : Pos} (T : XcAt X.prog X.K C f) (hr : Room 1 X.A) (hS : X.mg "super" = none) (hg : Gl X C) (hm : X.mg C = some (.ref (He.ga X.K C))) (ha : PE X e (LE X.K B te)) (hdb : (C == ("__debug__" : Str)) = false) :
    PE X (.Call (.Name C p) [] [⟨some f, e, kp⟩] pos) (LE X.K B fun σ M Q => te σ M fun x M1 => Q (.exc C f x) M1) := by
  obtain ⟨fI, cc, cda, F⟩ := T
  have hK : PK X [⟨some f, e, kp⟩] (LA X.K B (fun σ M Q => te σ M fun d M1 => (fun (_ : DSt) M Q => Q [] M) σ M1 fun xs M2 => Q (d :: xs) M2)) := lk_cons ha lk_nil
  refine pe_of fun pins s σ H σd M Qd I a ht => ?_
  refine wpAny_Call_Name_kw (ld_glob I hg hm ?_ hdb)
  have ht2 : te σd M fun d M1 => ∃ x, [d] = [x] ∧ Qd (.exc C f x) M1 := by
    have e : (fun d M1 => ∃ x, [d] = [x] ∧ Qd (.exc C f x) M1) = fun d M1 => Qd (.exc C f d) M1 := by
      funext d M1
      exact propext ⟨fun ⟨x, h, q⟩ => by cases h; exact q, fun q => ⟨d, rfl, q⟩⟩
    rw [e]
    exact ht
  refine PySem.W.callWith_of rfl (PySem.W.keeps_K F.oc.kC) (evalArgs_kwg rfl rfl (Calls.spliced_nil ?_))
  refine thn (lk_run hK I a (Qd := fun ds M1 => ∃ x, ds = [x] ∧ Qd (.exc C f x) M1) ht2 pos) fun us s1 ⟨ds, M1, vs, H1, I1, rv, f1, rl, m1, x, e, q⟩ => ⟨I1.kIn, ?_⟩
  subst e
  obtain ⟨v, vr, rfl, r1, r2⟩ := rl.cons_inv
  cases r2.nil_inv
  obtain ⟨u, rfl, ru⟩ : ∃ u, us = [u] ∧ RelV v u := by
    cases rv with
    | cons h t => cases t; exact ⟨_, rfl, h⟩
  exact thn (xmk_callk (v := v) (f := f) F I1 hS hr ru) fun w s' h => (xnew_val h m1 r1 q).pre f1
end
end RX
set_option Elab.async false
set_option linter.all false
set_option maxRecDepth 100000
set_option maxHeartbeats 4000000
/-! XC5: raise. -/
namespace RX
open PySem PySem.Spec PyProof.Rows L2
section
variable {X : Cx} {B : Bs}
/-- C(e) or C(f=e) told as a run -/
def MkRun (X : Cx) (B : Bs) (e : Expr) (C f : Str) (te : DE) : Prop := ∀ (pins : List (Addr × Obj)) (s : Shared) (σ : SV) (H : Hp) (σd : DSt) (M : MM) (Qd : DV), Inv X pins σ H s → At X.K B H σd M σ → te σd M Qd →
  wpAny (model X.prog X.w) X.A (eval e X.env) (fun u s' => ∃ x M1 v H1, Fr M H M1 H1 ∧ Rep X.K H1 x v ∧ RepM X.K M1 H1 ∧ Qd x M1 ∧ XNew X pins σ H1 (He.ga X.K C) f v u s') X.xe s
theorem mk_run1 {C f : Str} {e : Expr} {te : DE} {p pos : Pos} (T : XcAt X.prog X.K C f) (hr : Room 1 X.A) (hS : X.mg "super" = none) (hg : Gl X C) (hm : X.mg C = some (.ref (He.ga X.K C))) (ha : PE X e (LE X.K B te)) (hdb : (C == ("__debug__" : Str)) = false) (hst : starEach [e] X.env = (false, eval e X.env) :: starEach [] X.env) :
    MkRun X B (.Call (.Name C p) [e] [] pos) C f te := by
  obtain ⟨fI, cc, cda, F⟩ := T
  have hA : PA X [e] (LA X.K B (fun σ M Q => te σ M fun d M1 => (fun (_ : DSt) M Q => Q [] M) σ M1 fun xs M2 => Q (d :: xs) M2)) := la_cons ha la_nil hst
  have hany : (starEach [e] X.env).any (·.1) = false := by rw [hst]; rfl
  intro pins s σ H σd M Qd I a ht
  refine wpAny_Call_Name_kw (ld_glob I hg hm ?_ hdb)
  have ht2 : te σd M fun d M1 => ∃ x, [d] = [x] ∧ Qd x M1 := by
    have e : (fun d M1 => ∃ x, [d] = [x] ∧ Qd x M1) = fun d M1 => Qd d M1 := by
      funext d M1
      exact propext ⟨fun ⟨x, h, q⟩ => by cases h; exact q, fun q => ⟨d, rfl, q⟩⟩
    rw [e]
    exact ht
  refine PySem.W.callWith_of (by rw [any_back hany]; rfl) (PySem.W.keeps_K F.oc.kC) (evalArgs_gen (any_back hany) (thn (la_run hA I a (Qd := fun ds M1 => ∃ x, ds = [x] ∧ Qd x M1) ht2 pos) fun us s1 ⟨ds, M1, vs, H1, I1, rv, f1, rl, m1, x, e, q⟩ => ⟨I1.kIn, ?_⟩))
  subst e
  obtain ⟨v, vr, rfl, r1, r2⟩ := rl.cons_inv
  cases r2.nil_inv
  obtain ⟨u, rfl, ru⟩ : ∃ u, us = [u] ∧ RelV v u := by
    cases rv with
    | cons h t => cases t; exact ⟨_, rfl, h⟩
  exact thn (xmk_call (v := v) (f := f) F I1 hS hr ru) fun w s' h => ⟨x, M1, v, H1, f1, r1, m1, q, h⟩
theorem mk_runk {C f : Str} {e : Expr} {te : DE} {p pos kp : Pos} (T : XcAt X.prog X.K C f) (hr : Room 1 X.A) (hS : X.mg "super" = none) (hg : Gl X C) (hm : X.mg C = some (.ref (He.ga X.K C))) (ha : PE X e (LE X.K B te)) (hdb : (C == ("__debug__" : Str)) = false) :
    MkRun X B (.Call (.Name C p) [] [⟨some f, e, kp⟩] pos) C f te := by
  obtain ⟨fI, cc, cda, F⟩ := T
  have hK : PK X [⟨some f, e, kp⟩] (LA X.K B (fun σ M Q => te σ M fun d M1 => (fun (_ : DSt) M Q => Q [] M) σ M1 fun xs M2 => Q (d :: xs) M2)) := lk_cons ha lk_nil
  intro pins s σ H σd M Qd I a ht
  refine wpAny_Call_Name_kw (ld_glob I hg hm ?_ hdb)
  have ht2 : te σd M fun d M1 => ∃ x, [d] = [x] ∧ Qd x M1 := by
    have e : (fun d M1 => ∃ x, [d] = [x] ∧ Qd x M1) = fun d M1 => Qd d M1 := by
      funext d M1
      exact propext ⟨fun ⟨x, h, q⟩ => by cases h; exact q, fun q => ⟨d, rfl, q⟩⟩
    rw [e]
    exact ht
  refine PySem.W.callWith_of rfl (PySem.W.keeps_K F.oc.kC) (evalArgs_kwg rfl rfl (Calls.spliced_nil ?_))
  refine thn (lk_run hK I a (Qd := fun ds M1 => ∃ x, ds = [x] ∧ Qd x M1) ht2 pos) fun us s1 ⟨ds, M1, vs, H1, I1, rv, f1, rl, m1, x, e, q⟩ => ⟨I1.kIn, ?_⟩
  subst e
  obtain ⟨v, vr, rfl, r1, r2⟩ := rl.cons_inv
  cases r2.nil_inv
  obtain ⟨u, rfl, ru⟩ : ∃ u, us = [u] ∧ RelV v u := by
    cases rv with
    | cons h t => cases t; exact ⟨_, rfl, h⟩
  exact thn (xmk_callk (v := v) (f := f) F I1 hS hr ru) fun w s' h => ⟨x, M1, v, H1, f1, r1, m1, q, h⟩
/-- raise C(..) -/
theorem ls_raise {C f : Str} {e : Expr} {te : DE} {pos : Pos} {E : ED} (b : XbF X.K (He.ga X.K C)) (hc : X.calm = true) (h : MkRun X B e C f te) (tk : Takes X (WXE X.K B E)) : PS X (.Raise (some e) none pos) (LS X.K B fun _ σ M => te σ M fun x M1 => E C [f] [x] σ M1) := by
  have hm : PMk X e (fun σ H Q => ∃ σd M Qd, At X.K B H σd M σ ∧ te σd M Qd ∧ ∀ x M1 v H1 dx o, Fr M H M1 H1 → Rep X.K H1 x v → RepM X.K M1 H1 → H1 dx = none → Qd x M1 → Q (.ref (He.ga X.K C)) (some dx) (upd H1 dx (.frz o (.xd [(f, v)])))) := by
    intro pins s σ H Q I ⟨σd, M, Qd, a, ht, k⟩
    refine thn (h pins s σ H σd M Qd I a ht) fun u s' ⟨x, M1, v, H1, f1, r1, m1, q, hx⟩ => ?_
    obtain ⟨p, dx, t, o, G, rfl, hp, hd, ne, J, kk, ge, he⟩ := hx
    have na : upd H1 dx (.frz o (.xd [(f, v)])) p = none := by rw [upd_ne (Ne.symm ne)]; exact hp
    exact ⟨p, _, _, { s' with heap := G }, _, .ref (He.ga X.K C), some dx, rfl, J, kk, ge, he, ⟨rfl, rfl⟩, rfl, rfl, na, rfl, J.bare, raises_own b.oc.exC b.oc.tyC, k x M1 v H1 dx o f1 r1 m1 hd q⟩
  refine (ps_raise hc tk hm).imp fun D σ H ⟨σd, M, Dd, a, t, k⟩ => ?_
  refine ⟨σd, M, _, a, t, fun x M1 v H1 dx o f1 r1 m1 hd q => ?_⟩
  refine ⟨C, f, x, dx, v, σd, M1, rfl, rfl, ⟨o, upd_same⟩, r1.keep (.new hd), (a.go f1 m1).go (.hid hd) (m1.hid hd), q⟩
end
end RX
set_option Elab.async false
set_option linter.all false
set_option maxRecDepth 100000
set_option maxHeartbeats 4000000
/-! XC6: what may be said of an exception that is caught. -/
namespace RX
open PySem PySem.Spec PyProof.Rows L2 L2H
/-- a def that is called with a caught exception: tab tells, by the exception's class, what it tells -/
structure FnX (P : Program) (w : World) (K : PySem.W.Frag) (mg : Str → Option Value) (base : Heap) (k : Nat) (fa : Addr) (fd : FuncData) (tab : List (Str × HV)) : Prop where
  run : ∀ (A : Around) (outer : List Env) (s : Shared) (H : Hp) (args : Args) (p : Addr × Obj) (C f : Str) (dx : Addr) (v : V) (M : MM) (hv : HV) (x : D), RoomH k A → A.guards = some [] → PinOk outer H s p → Zc (.ref (He.ga K C)) (some dx) p.2 → (∃ vs, p.2.data = .fields vs) → XdF H dx f v →
    Env0 P w K mg base A outer s H → BindsTo s fd args [("e", .ref p.1)] → RepM K M H → Rep K H x v → tab.lookup C = some hv → codeAny (model P w) A (.call (.ref fa) args) (CR (L2.CX P w) outer P w H s (KQ K M H fun d M' => d = hvD hv ∧ M' = M) (KXd K M H XF)) s
/-- the caught exception -/
structure Hot (X : Cx) (B : Bs) (a : Addr) (oe : Obj) (C f : Str) (x : D) (dx : Addr) (v : V) : Prop where
  pin : (a, oe) ∈ X.pn
  zc : Zc (.ref (He.ga X.K C)) (some dx) oe
  fl : ∃ vs, oe.data = .fields vs
  xd : XdF B.2 dx f v
  rx : Rep X.K B.2 x v
  rm : RepM X.K B.1 B.2
  b : XbF X.K (He.ga X.K C)
section
variable {X : Cx} {B : Bs} {a : Addr} {oe : Obj} {C f : Str} {x : D} {dx : Addr} {v : V} {i : Nat} {n : Str}
theorem Hot.inst (h : Hot X B a oe C f x dx v) {pins : List (Addr × Obj)} {σ : SV} {H : Hp} {s : Shared} (I : Inv X pins σ H s) (xd : XdF H dx f v) : ∃ od, PySem.W.InstAt s.heap a oe (He.ga X.K C) (some od) ∧ H dx = some (.frz od (.xd [(f, v)])) := by
  obtain ⟨od, hd⟩ := xd
  have P1 := I.pin (a, oe) (List.mem_append_left _ h.pin)
  obtain ⟨vs, hv⟩ := h.fl
  exact ⟨od, ⟨P1.1, h.zc.1, by unfold PySem.W.notCls; rw [hv] <;> rfl, by rw [h.zc.2]; exact (I.hok dx _ hd).1⟩, hd⟩
theorem le_hfld {p pos : Pos} (h : Hot X B a oe C f x dx v) (hno : PySem.W.findIn X.K (.ref (He.ga X.K C)) f = some none) (hv : PE X (.Name n p) (tVar i)) (hb : attributeBase (.Name n p) f X.env (eval (.Name n p) X.env) = eval (.Name n p) X.env) :
    PE X (.Attribute (.Name n p) f pos) (LE X.K B fun σ M Q => σ[i]? = some (some (.ref a)) ∧ Q x M) := by
  refine pe_of fun pins s σ H σd M Qd I at_ ht => ?_
  have kf := at_.b.keep h.rm
  obtain ⟨u, eu, ru⟩ := at_.s.get ht.1
  cases (rep_ref ru)
  refine attr_of hb (thn (hv.run pins s σ H (fun y H' => y = .ref a ∧ H' = H) I ⟨_, eu, rfl, rfl⟩) fun w s1 ⟨y, H1, I1, rw', e1, e2⟩ => ?_)
  subst e1 e2
  obtain rfl : w = Value.ref a := rw'
  obtain ⟨od, J, hd⟩ := h.inst I1 (h.xd.keep kf)
  obtain ⟨hod, mA, hns, hr⟩ := I1.hok dx _ hd
  obtain ⟨od', ho', hl⟩ := lookIn_ns hns
  rw [hod] at ho'
  cases ho'
  have hz : ([(f, v)] : List (Str × V)).lookup f = some v := by simp [List.lookup]
  obtain ⟨u, hu, ru⟩ := RelO.some_of (v := v) (o := mA f) (by rw [← hz]; exact hr f)
  exact HandSPX.exc_get I1.kIn J h.b.xf.ga h.b.xf.gg h.b.xf.exC (PySem.W.findObj_own h.b.xf.hdC hno rfl (by rw [hl, hu])) (handed_of ru) ⟨x, M, v, H1, I1.tok _, ru, .refl, h.rx.keep kf, at_.m, ht.2⟩
theorem le_hisi {pf p pos : Pos} {t : Expr} {c : V} {cv : Value} {b : Bool} (h : Hot X B a oe C f x dx v) (hK : PySem.W.kitOne X.K (.ref (He.ga X.K C)) cv = some b) (hc : ∀ u, RelV c u → u = cv) (hg : Gl X "isinstance") (hm : X.mg "isinstance" = none) (hv : PE X (.Name n p) (tVar i)) (ht : PE X t (tC c))
    (h1 : starEach [.Name n p, t] X.env = (false, eval (.Name n p) X.env) :: starEach [t] X.env) (h2 : starEach [t] X.env = (false, eval t X.env) :: starEach [] X.env) :
    PE X (.Call (.Name "isinstance" pf) [.Name n p, t] [] pos) (LE X.K B (VT fun σ M Q => σ[i]? = some (some (.ref a)) ∧ Q b M)) := by
  refine pe_of fun pins s σ H σd M Qd I at_ ht' => ?_
  have kf := at_.b.keep h.rm
  obtain ⟨u, eu, ru⟩ := at_.s.get ht'.1
  cases (rep_ref ru)
  have hA : PA X [.Name n p, t] _ := pa_cons hv (pa_cons ht pa_nil h2) h1
  refine wpAny_Call_Name_kw (ld_blt I hg hm PyProof.Rows.boot_isinstance ?_ (by decide) (by decide))
  refine PyProof.Rows.callWith_builtin1 (thn (hA.run pos pins _ σ H (fun vs H' => vs = [.ref a, c] ∧ H' = H) (I.tok _) ⟨_, eu, rfl, rfl⟩) fun us s1 ⟨vs, H1, I1, r1, e1, e2⟩ => ?_) h1 (by rw [h2]; rfl)
  subst e1 e2
  cases r1 with
  | cons ra rr =>
    cases rr with
    | cons rt rr =>
      cases rr
      cases ra
      cases hc _ rt
      obtain ⟨od, J, hd⟩ := h.inst I1 (h.xd.keep kf)
      exact PySem.W.kia_one (PySem.W.kitx_exc h.b.hcl h.b.xf.ga h.b.xf.gg h.b.xf.exC h.b.ha h.b.hn h.b.ht h.b.hm) I1.kIn J hK (fun z => nomatch z) fun tk => ⟨.bl b, M, .bl b, H1, I1.kept (t' := tk) (fun _ _ z => z), rfl, .refl, mk_bl _, at_.m, ht'.2⟩
theorem le_hcall {k : Nat} {g : Str} {q p pos : Pos} {fa : Addr} {fd : FuncData} {tab : List (Str × HV)} {hv : HV} (h : Hot X B a oe C f x dx v) (F : FnX X.prog X.w X.K X.mg X.base k fa fd tab) (hr : RoomH k X.A) (hgd : X.A.guards = some []) (hg : Gl X g) (hm : X.mg g = some (.ref fa)) (hk : PySem.W.keepIn X.K (.ref fa) = true)
    (hb : Binds X.K fd ["e"] []) (hn : PE X (.Name n p) (tVar i)) (hdb : (g == ("__debug__" : Str)) = false) (hl : tab.lookup C = some hv) (h1 : starEach [.Name n p] X.env = (false, eval (.Name n p) X.env) :: starEach [] X.env) :
    PE X (.Call (.Name g q) [.Name n p] [] pos) (LE X.K B fun σ M Q => σ[i]? = some (some (.ref a)) ∧ Q (hvD hv) M) := by
  have hany : (starEach [.Name n p] X.env).any (·.1) = false := by rw [h1]; rfl
  refine pe_of fun pins s σ H σd M Qd I at_ ht => ?_
  have kf := at_.b.keep h.rm
  obtain ⟨u, eu, ru⟩ := at_.s.get ht.1
  cases (rep_ref ru)
  have hA : PA X [.Name n p] _ := pa_cons hn pa_nil h1
  refine wpAny_Call_Name_kw (ld_glob I hg hm ?_ hdb)
  refine PySem.W.callWith_of (by rw [any_back hany]; rfl) (PySem.W.keeps_K hk) (evalArgs_gen (any_back hany) (thn (hA.run pos pins s σ H (fun vs H' => vs = [.ref a] ∧ H' = H) I ⟨_, eu, rfl, rfl⟩) fun us s1 ⟨vs, H1, I1, r1, e1, e2⟩ => ⟨I1.kIn, ?_⟩))
  subst e1 e2
  have P1 := I1.pin (a, oe) (List.mem_append_left _ h.pin)
  have hpin : PinOk X.stack H1 s1 (a, oe) := ⟨P1.1, P1.2.1, fun hm => (List.mem_cons.mp (I1.stkSub a hm)).elim P1.2.2.1 P1.2.2.2.1, P1.2.2.2.2⟩
  have hbd := hb s1 us I1.kIn (by rw [List.append_nil, ← r1.length]; rfl)
  obtain rfl : us = [.ref a] := by
    cases r1 with
    | cons h t => cases t; cases h; rfl
  refine wpAny_call (codeAny_mono (F.run X.A X.stack s1 H1 ⟨[.ref a], []⟩ (a, oe) C f dx v M hv x hr hgd hpin h.zc h.fl (h.xd.keep kf) I1.env0 hbd at_.m (h.rx.keep kf) hl) fun r s' hq => ?_)
  cases r with
  | error e => exact (cx_no hq).elim
  | ok fl =>
    cases fl with
    | ret u =>
      obtain ⟨d, M', y, H', I2, rv, f2, r2, m2, e1, e2⟩ := EPD.of (I1.after hq)
      subst e1 e2
      exact ⟨_, _, y, H', I2, rv, f2, r2, m2, ht.2⟩
    | next => exact False.elim hq
    | brk => exact False.elim hq
    | cont => exact False.elim hq
end
end RX
set_option Elab.async false
set_option linter.all false
set_option maxRecDepth 100000
set_option maxHeartbeats 4000000
/-! XC7: try: .. except C as n: return .. -/
namespace RX
open PySem PySem.Spec PyProof.Rows L2 L2H
section
variable {X : Cx} {B : Bs}
/-- what the clause makes of the body's exceptions -/
def hxE (all subs : List Str) (i : Nat) (wh : Str → Str → D → DSt → MM → DV → Prop) (E : ED) (Dd : DEnds) : ED := fun C ks vs σ1 M1 => C ∈ all ∧ ∃ f x, ks = [f] ∧ vs = [x] ∧ Bif (decide (C ∈ subs)) (wh C f x (σ1.set i none) M1 Dd.rt) (E C ks vs σ1 M1)
/-- the suite's wish at the state -/
def hxS (K : PySem.W.Frag) (subs : List Str) (i : Nat) (wh : Str → Str → D → DSt → MM → DV → Prop) : Addr → Value → Option Addr → TS := fun a cls d Dd σ H => ∃ (C f : Str) (x : D) (dx : Addr) (v : V) (σd : DSt) (σ1 : SV) (M : MM) (Q : DV), cls = .ref (He.ga K C) ∧ d = some dx ∧ C ∈ subs ∧ XdF H dx f v ∧ Rep K H x v ∧ σ = σ1.set i (some (.ref a)) ∧ RepS K H σd σ1 ∧ RepM K M H ∧
  wh C f x (σd.set i none) M Q ∧ ∀ y M' u H', Fr M H M' H' → Rep K H' y u → RepM K M' H' → Q y M' → Dd.rt u H'
theorem set_set {α : Type} {l : List α} {i : Nat} {a b : α} : (l.set i a).set i b = l.set i b := by
  induction l generalizing i with
  | nil => rfl
  | cons x l ih =>
    cases i with
    | zero => rfl
    | succ i => simp [ih]
theorem ls_try1 {all subs : List Str} {Cn n : Str} {i : Nat} {body : List Stmt} {e : Expr} {np rp pos' pos : Pos} {E : ED} {t : ED → DS} {wh : Str → Str → D → DSt → MM → DV → Prop} (hs : X.stack = X.env :: X.outer) (hf : X.env.frame = some X.env.locals) (hN : X.N.Nodup) (hi : X.N[i]? = some n) (hln : X.env.kindOf n = some .local)
    (hc : Names X Cn (.ref (He.ga X.K Cn))) (tk : Takes X (WXE X.K B E)) (hx : ∀ C ∈ all, XbF X.K (He.ga X.K C) ∧ PySem.W.exmOne X.K (.ref (He.ga X.K C)) (.ref (He.ga X.K Cn)) = some (decide (C ∈ subs))) (hal : ∀ C ∈ subs, C ∈ all)
    (hb : ∀ (E' : ED) (B' : Bs) (pn : List (Addr × Obj)) (xe : Value → Shared → Prop), Takes (X.tr pn xe) (WXE X.K B' E') → PassesOwn (model X.prog X.w) X.A X.env xe → PSs (X.tr pn xe) body (LS X.K B' (t E')))
    (hsu : ∀ (a : Addr) (oe : Obj) (pn : List (Addr × Obj)) (C f : Str) (x : D) (dx : Addr) (v : V) (B' : Bs), C ∈ subs → Hot (X.suite a ((a, oe) :: pn)) B' a oe C f x dx v → PE (X.suite a ((a, oe) :: pn)) e (LE X.K B' fun σ M Q => σ[i]? = some (some (.ref a)) ∧ wh C f x (σ.set i none) M Q)) :
    PS X (.Try body [.ExceptHandler (some (.Name Cn np)) (some n) [.Return (some e) rp] pos'] [] [] pos) (LS X.K B fun Dd σ M => t (hxE all subs i wh E Dd) Dd σ M) := by
  have z := ps_try_as (pos := pos) (pos' := pos') (np := np) (body := body) (suite := []) (b₀ := .Return (some e) rp) (Wout := WXE X.K B E) (ts := hxS X.K subs i wh) (tb := fun W => fun Dd σ H => ∃ (E' : ED) (B' : Bs), (∀ cls d σ1 H1, WXE X.K B' E' cls d σ1 H1 → W cls d σ1 H1) ∧ LS X.K B' (t E') Dd σ H) hs hf hN hi hln hc tk
    (fun W pn xe tk' po => ⟨fun pins s σ H Dd I ⟨E', B', hW, hl⟩ => (hb E' B' pn xe (tk'.imp fun c d σ H h => hW c d σ H h) po).run pins s σ H Dd I hl⟩)
    (fun a oe cls d pn hz hfl => ⟨fun pins s σ H Dd I ⟨C, f, x, dx, v, σd1, σ1, M, Q, e1, e2, hC, hxd, hxr, es, rs, rm, hw, hend⟩ => ?_⟩)
  · refine z.imp fun Dd σ H ⟨σd, M, Qd, a, ht, ends⟩ => ?_
    refine ⟨hxE all subs i wh E Qd, (M, H), fun cls d σ1 H1 ⟨C, f, x, dx, v, σd1, M1, e1, e2, h1, h2, a1, q⟩ => ?_, σd, M, Qd, ⟨.refl, a.s, a.m⟩, ht, ends⟩
    subst e1 e2
    obtain ⟨hC, f', x', ef, ex, q⟩ := q
    cases ef
    cases ex
    obtain ⟨b, hm⟩ := hx C hC
    refine ⟨_, hm, fun hb1 p hp => ?_, fun hb1 => ?_⟩
    · exact ⟨C, f, x, dx, v, σd1, σ1, M1, Qd.rt, rfl, rfl, of_decide_eq_true hb1, h1, h2, rfl, a1.s, a1.m, q.1 hb1, fun y M' u H' fr r m qq => ends.rt y M' u H' (a1.b.trans fr) r m qq⟩
    · exact ⟨C, f, x, dx, v, σd1, M1, rfl, rfl, h1, h2, ⟨a.b.trans a1.b, a1.s, a1.m⟩, q.2 hb1⟩
  · subst e1 e2
    obtain ⟨b, hm⟩ := hx C (hal C hC)
    have hh : Hot (X.suite a ((a, oe) :: pn)) (M, H) a oe C f x dx v := ⟨List.mem_cons_self, hz, hfl, hxd, hxr, rm, b⟩
    have he := hsu a oe pn C f x dx v (M, H) hC hh
    subst es
    have hlen : σd1.length = σ1.length := Paired.length rs
    have hlt : i < σd1.length := by
      have h1 := I.len
      rw [List.length_set, ← hlen] at h1
      rw [h1]
      obtain ⟨h2, _⟩ := List.getElem?_eq_some_iff.mp hi
      exact h2
    have q := (lss_cons (ls_ret (pos := rp) (X := X.suite a ((a, oe) :: pn)) (B := (M, H)) he) lss_nil).run pins s _ H Dd I
    refine q ⟨σd1.set i (some (.ref a)), M, { nx := fun _ _ => False, rt := Q }, ⟨.refl, RepS.set i rs (show RelD X.K H (some (.ref a)) (some (.ref a)) from mk_ref (K := X.K) (H := H) a), rm⟩, ⟨?_, ?_⟩, ⟨fun _ _ _ _ _ _ _ z => z.elim, hend, fun _ _ _ _ _ _ _ z => z.elim, fun _ _ _ _ _ _ _ z => z.elim⟩⟩
    · rw [List.getElem?_set_self hlt]
    · rw [set_set]
      exact hw
end
end RX
set_option Elab.async false
set_option linter.all false
set_option maxRecDepth 100000
set_option maxHeartbeats 4000000
/-! XT1: several except clauses, with names or without. -/
namespace RX
open PySem PySem.Spec PyProof.Rows L2
/-- a clause: its class, its name's slot, what its suite makes -/
abbrev Cla : Type := Value × Option Nat × (Addr → Value → Option Addr → TS)
def unN (D : Ends) (i : Nat) : Ends := { nx := fun σ' H' => D.nx (σ'.set i none) H', rt := D.rt, bk := fun σ' H' => D.bk (σ'.set i none) H', ct := fun σ' H' => D.ct (σ'.set i none) H' }
def wMix (K : PySem.W.Frag) (Wout : WX) (D : Ends) : List Cla → WX
  | [] => Wout
  | (c, on, ts) :: r => fun cls d σ H => ∃ b, PySem.W.exmOne K cls c = some b ∧ (b = true → ∀ a, H a = none → (match on with
      | none => ts a cls d D σ H
      | some i => ts a cls d (unN D i) (σ.set i (some (.ref a))) H)) ∧ (b = false → wMix K Wout D r cls d σ H)
inductive HdsMix (X : Cx) : List ExceptHandler → List Cla → Prop
  | nil : HdsMix X [] []
  | bare {x : Str} {c : Value} {ts : Addr → Value → Option Addr → TS} {b₀ : Stmt} {suite : List Stmt} {np pos' : Pos} {hds : List ExceptHandler} {l : List Cla} (hc : Names X x c)
      (hsu : ∀ (a : Addr) (oe : Obj) (cls : Value) (d : Option Addr) (pn : List (Addr × Obj)), Zc cls d oe → (∃ vs, oe.data = .fields vs) → PSs (X.suite a ((a, oe) :: pn)) (b₀ :: suite) (ts a cls d)) (r : HdsMix X hds l) :
      HdsMix X (.ExceptHandler (some (.Name x np)) none (b₀ :: suite) pos' :: hds) ((c, none, ts) :: l)
  | named {x n : Str} {c : Value} {i : Nat} {ts : Addr → Value → Option Addr → TS} {b₀ : Stmt} {suite : List Stmt} {np pos' : Pos} {hds : List ExceptHandler} {l : List Cla} (hi : X.N[i]? = some n) (hln : X.env.kindOf n = some .local) (hc : Names X x c)
      (hsu : ∀ (a : Addr) (oe : Obj) (cls : Value) (d : Option Addr) (pn : List (Addr × Obj)), Zc cls d oe → (∃ vs, oe.data = .fields vs) → PSs (X.suite a ((a, oe) :: pn)) (b₀ :: suite) (ts a cls d)) (r : HdsMix X hds l) :
      HdsMix X (.ExceptHandler (some (.Name x np)) (some n) (b₀ :: suite) pos' :: hds) ((c, some i, ts) :: l)
section
variable {X : Cx} {body : List Stmt} {h₀ : ExceptHandler} {hds : List ExceptHandler} {l : List Cla} {pos : Pos} {tb : WX → TS} {Wout : WX}
theorem ps_try_mix (hs : X.stack = X.env :: X.outer) (hf : X.env.frame = some X.env.locals) (hN : X.N.Nodup) (tk : Takes X Wout)
    (hb : ∀ (W : WX) (pn : List (Addr × Obj)) (xe : Value → Shared → Prop), Takes (X.tr pn xe) W → PassesOwn (model X.prog X.w) X.A X.env xe → PSs (X.tr pn xe) body (tb W))
    (hh : HdsMix X (h₀ :: hds) l) : PS X (.Try body (h₀ :: hds) [] [] pos) (fun D σ H => tb (wMix X.K Wout D l) D σ H) := by
  refine ⟨fun pins s σ H D I h => ?_⟩
  have ok := I.ok
  have hfr : X.A.frames = some (X.env :: X.outer) := by rw [ok.frames, hs]
  refine wpAny_Try_except ?_
  refine wpAny_mono ((hb (wMix X.K Wout D l) (X.pn ++ pins) (fun e s₁ => wpAny (model X.prog X.w) X.A (noteFrame e X.env) (fun _ s₂ => wpAny (model X.prog X.w) X.A (setFlight e none) (fun _ s₃ =>
    wpAny (model X.prog X.w) X.A (handleBy e X.env (h₀ :: hds)) (SP X pins D) X.xe s₃) X.xe s₂) X.xe s₁) (fun u s' xx => ?_) PassesOwn.looking).run [] s σ H D (I.toTry _) h) (fun f s1 hsp => ?_) (fun e s1 he => he)
  · -- the catch
    obtain ⟨a, B, sI, pins', σ', H', cls, d, rfl, J', nb, up, sky, na, os, ag, w⟩ := xx
    have J : Inv X pins σ' H' sI := J'.ofTry ok
    have sky' : Sky B (X.env :: X.outer) a (Zc cls d) X.env.locals s'.heap := by rw [← hs]; exact sky
    show wpAny (model X.prog X.w) X.A (noteFrame (.ref a) X.env) _ _ _
    refine Sky.land Zc.steady hfr hf sky' fun h3 fl3 up3 => ?_
    have J3 : Inv X pins σ' H' { s' with heap := h3 } := J.landed nb fl3.1 (up.trans up3) os ag
    obtain ⟨oe3, vs3, he3, hz3, hd3⟩ := fl3.there
    have notFr : ∀ {h : Heap} {o : Obj} {vs : Array Value}, h.FunFrames B (X.env :: X.outer) → h.get? a = some o → o.data = .fields vs → a ∉ frs (X.env :: X.outer) := fun {h o vs} ff e dd hm => by
      obtain ⟨_, o', e', hnf⟩ := ff.mem hm
      rw [e] at e'; cases e'
      exact hnf _ dd
    have nfr := notFr fl3.2.2.1 he3 hd3
    have nL : a ≠ X.env.locals := fun z => nfr (List.mem_filterMap.mpr ⟨X.env, List.mem_cons_self, by rw [hf, z]⟩)
    have nF : a ∉ X.fs := fun hm => by
      obtain ⟨e, he, q⟩ := List.mem_filterMap.mp hm
      exact nfr (List.mem_filterMap.mpr ⟨e, List.mem_cons_of_mem _ he, q⟩)
    have S3 := J3.suite he3 hd3 na nL nF
    have LT : PySem.W.Looks (model X.prog X.w) h3 (typeOf (.ref a)) cls := fun A Q E s k q => wpAny_typeOf_ref (k _ _ he3) (by rw [hz3.1]; exact q)
    have go : ∀ {hds' : List ExceptHandler} {l' : List Cla}, HdsMix X hds' l' → wMix X.K Wout D l' cls d σ' H' →
        wpAny (model X.prog X.w) X.A (handleBy (.ref a) X.env hds') (SP X pins D) X.xe { s' with heap := h3 } := by
      intro hds' l' hk
      induction hk with
      | nil =>
        intro w
        refine wpAny_handleBy_nil ?_
        obtain ⟨k1, k2, k3, oe, vs, T, oT, ts', he, hz, hd, h1, hr⟩ := id fl3
        unfold PySem.passOn
        refine wpAny_bind (wpAny_field he hd h1 ?_)
        rw [if_neg (show ¬ ((Value.ref T == Value.none) = true) from by simp)]
        have fin : wpAny (model X.prog X.w) X.A (setFlight (.ref a) X.env.frame) (fun _ s4 => wpAny (model X.prog X.w) X.A (throw (.ref a) : Sem Flow) (SP X pins D) X.xe s4) X.xe { s' with heap := h3 } := by
          rw [hf]
          refine HandSPX.setFlight_upZ fl3 fun h4 hh4 up4 => wpAny_throw (tk _ _ ?_)
          exact ⟨a, B, sI, pins, σ', H', cls, d, rfl, J, nb, (up.trans up3).trans up4, .inr (.inr (by rw [hs]; exact hh4)), na, os, ag, w⟩
        first
          | exact wpAny_bind (wpAny_pure (wpAny_bind fin))
          | exact wpAny_bind fin
      | @bare x c ts b₀ suite np pos' hds2 l2 hc hsu r ih =>
        intro w
        obtain ⟨b, hb1, hyes, hno⟩ := w
        refine wpAny_handleBy_cons (codeAny_handlers_test ?_) (by intro q; cases q)
        have LM := PySem.W.exm_one (M := model X.prog X.w) (J3.kIn) LT hb1
        have test : ∀ {Q : Value → Shared → Prop} {E : Value → Shared → Prop}, Q c { s' with heap := h3 } → wpAny (model X.prog X.w) (X.A.mark (some (.ref a))) (eval (.Name x np) X.env) Q E { s' with heap := h3 } := fun {Q E} q => by
          obtain ⟨hg, hdbg, hm | ⟨hm, hv, hnn⟩⟩ := hc
          · exact ld_glob (X := X.suite a ((a, oe3) :: (X.pn ++ pins))) S3 hg hm q hdbg
          · exact ld_blt (X := X.suite a ((a, oe3) :: (X.pn ++ pins))) S3 hg hm hv q hnn hdbg
        refine test (LM.here ?_)
        cases b with
        | true =>
          refine codeAny_handlers_suite ?_
          refine HandSPX.lands_againZ fl3 fun h4 fl4 up4 => ?_
          have J4 : Inv X pins σ' H' { s' with heap := h4 } := J.landed nb fl4.1 ((up.trans up3).trans up4) os ag
          obtain ⟨oe4, vs4, he4, hz4, hd4⟩ := fl4.there
          have S4 := J4.suite he4 hd4 na nL nF
          refine wpAny_mono ((hsu a oe4 cls d (X.pn ++ pins) hz4 ⟨_, hd4⟩).run [] _ _ H' _ S4 (hyes rfl a na)) (fun f s6 hsp => ?_) (fun _ _ z => False.elim z)
          cases f with
          | next =>
            obtain ⟨σ6, H6, S6, q6⟩ := hsp
            exact ⟨_, _, S6.unsuite ok, q6⟩
          | brk =>
            obtain ⟨σ6, H6, S6, q6⟩ := hsp
            exact ⟨_, _, S6.unsuite ok, q6⟩
          | cont =>
            obtain ⟨σ6, H6, S6, q6⟩ := hsp
            exact ⟨_, _, S6.unsuite ok, q6⟩
          | ret u =>
            obtain ⟨v6, σ6, H6, S6, r6, q6⟩ := hsp
            exact ⟨_, _, _, S6.unsuite ok, r6, q6⟩
        | false =>
          show wpAny _ X.A (handleBy (.ref a) X.env hds2) _ _ _
          exact ih (hno rfl)
      | @named x n c i ts b₀ suite np pos' hds2 l2 hi hln hc hsu r ih =>
        intro w
        obtain ⟨b, hb1, hyes, hno⟩ := w
        refine wpAny_handleBy_cons (codeAny_handlers_test ?_) (by intro q; cases q)
        have LM := PySem.W.exm_one (M := model X.prog X.w) (J3.kIn) LT hb1
        have test : ∀ {Q : Value → Shared → Prop} {E : Value → Shared → Prop}, Q c { s' with heap := h3 } → wpAny (model X.prog X.w) (X.A.mark (some (.ref a))) (eval (.Name x np) X.env) Q E { s' with heap := h3 } := fun {Q E} q => by
          obtain ⟨hg, hdbg, hm | ⟨hm, hv, hnn⟩⟩ := hc
          · exact ld_glob (X := X.suite a ((a, oe3) :: (X.pn ++ pins))) S3 hg hm q hdbg
          · exact ld_blt (X := X.suite a ((a, oe3) :: (X.pn ++ pins))) S3 hg hm hv q hnn hdbg
        refine test (LM.here ?_)
        cases b with
        | true =>
          refine codeAny_handlers_suite_as ?_
          refine HandSPX.lands_againZ fl3 fun h4 fl4 up4 => ?_
          have J4 : Inv X pins σ' H' { s' with heap := h4 } := J.landed nb fl4.1 ((up.trans up3).trans up4) os ag
          obtain ⟨oe4, vs4, he4, hz4, hd4⟩ := fl4.there
          have S4 := J4.suite he4 hd4 na nL nF
          have hloc : Loc X.env.scope n := .inl hln
          refine store_ok (X := X.suite a ((a, oe4) :: (X.pn ++ pins))) (v := .ref a) S4 hN hi hloc rfl (fun s5 S5 => ?_) (.inr hln)
          refine wpAny_mono ((hsu a oe4 cls d (X.pn ++ pins) hz4 ⟨_, hd4⟩).run [] s5 _ H' _ S5 (hyes rfl a na)) (fun f s6 hsp => ?_) (fun _ _ z => False.elim z)
          have end_ : ∀ {σ6 : L2.St} {H6 : Hp} {Q : Shared → Prop}, Inv (X.suite a ((a, oe4) :: (X.pn ++ pins))) [] σ6 H6 s6 → (∀ s7, Inv X pins (σ6.set i none) H6 s7 → Q s7) →
              wpAny (model X.prog X.w) X.A (do bindName X.env n .none; unbindBehindTheSuite X.env n pos') (fun _ s7 => Q s7) X.xe s6 := fun {σ6 H6 Q} S6 hq => gone_ok (S6.unsuite ok) hN hi hln hq
          cases f with
          | next =>
            obtain ⟨σ6, H6, S6, q6⟩ := hsp
            exact end_ S6 fun s7 J7 => ⟨_, _, J7, q6⟩
          | brk =>
            obtain ⟨σ6, H6, S6, q6⟩ := hsp
            exact end_ S6 fun s7 J7 => ⟨_, _, J7, q6⟩
          | cont =>
            obtain ⟨σ6, H6, S6, q6⟩ := hsp
            exact end_ S6 fun s7 J7 => ⟨_, _, J7, q6⟩
          | ret u =>
            obtain ⟨v6, σ6, H6, S6, r6, q6⟩ := hsp
            exact end_ S6 fun s7 J7 => ⟨_, _, _, J7, r6, q6⟩
        | false =>
          show wpAny _ X.A (handleBy (.ref a) X.env hds2) _ _ _
          exact ih (hno rfl)
    exact go hh w
  · cases f with
    | next =>
      obtain ⟨σ', H', J', q⟩ := hsp
      exact wpAny_execs_nil ⟨σ', H', J'.ofTry ok, q⟩
    | brk =>
      obtain ⟨σ', H', J', q⟩ := hsp
      exact ⟨σ', H', J'.ofTry ok, q⟩
    | cont =>
      obtain ⟨σ', H', J', q⟩ := hsp
      exact ⟨σ', H', J'.ofTry ok, q⟩
    | ret u =>
      obtain ⟨v, σ', H', J', r, q⟩ := hsp
      exact ⟨v, σ', H', J'.ofTry ok, r, q⟩
end
end RX
set_option Elab.async false
set_option linter.all false
set_option maxRecDepth 100000
set_option maxHeartbeats 4000000
/-! XT2: a lambda is made: its code object is frozen, the table stands in M. -/
namespace RX
open PySem PySem.Spec PyProof.Rows L2 LamX
section
variable {X : Cx} {pins : List (Addr × Obj)} {σ : L2.St} {H : Hp} {s : Shared} {M : MM}
/-- the table's object is written, the code object at c is new and frozen; all else is kept -/
theorem inv_tableF {P c : Addr} {q : Str} {ps more : Array Value} {h' : Heap} {t' : Nat} {oc : Obj} (I : Inv X pins σ H s) (hP : H P = some (.tbl ps)) (k : ∀ b o, b ≠ P → s.heap.get? b = some o → h'.get? b = some o)
    (hm : h'.get? P = some { cls := .none, data := .fields (ps ++ more) }) (hc : s.heap.objs.size ≤ c) (ho : h'.get? c = some oc ∧ ∃ (vs : Array Value) (t : Tok), oc.data = .fields vs ∧ vs[1]? = some (.str q t)) :
    Inv X pins σ (upd (upd H P (.tbl (ps ++ more))) c (.frz oc (CodeO c q))) { s with heap := h', toks := t' } := by
  have nC : H c = none := I.hok.fresh hc
  have nPc : P ≠ c := ne_of_none hP nC
  have at_ : ∀ b, b ≠ P → b ≠ c → upd (upd H P (.tbl (ps ++ more))) c (.frz oc (CodeO c q)) b = H b := fun b h1 h2 => by rw [upd_ne h2, upd_ne h1]
  have atP : upd (upd H P (.tbl (ps ++ more))) c (.frz oc (CodeO c q)) P = some (.tbl (ps ++ more)) := by rw [upd_ne nPc, upd_same]
  have nP : ∀ b u, H b = some u → (∀ q, u ≠ .tbl q) → b ≠ P := fun b u e q z => by
    rw [z, hP] at e
    exact q ps (Option.some.inj e).symm
  have nN : ∀ b, H b = none → b ≠ P := fun b e z => by
    rw [z, hP] at e
    cases e
  have lt' : ∀ b o, s.heap.get? b = some o → b ≠ c := fun b o e z => by
    rw [z] at e
    exact Nat.lt_irrefl _ (Nat.lt_of_lt_of_le (Heap.lt_size e) hc)
  have sm : ∀ b u, H b = some u → b ≠ c := fun b u e => ne_of_none e nC
  refine I.step (g' := s.gens) (d' := s.drawn) (ch := []) (fun b hb => absurd hb (by simp)) (fun b o _ _ _ e n => k b o (nN b n) e) (fun b o _ _ _ e n => ⟨o.slots, k b o (nN b n) e⟩)
    (fun b o _ e n => by rw [at_ b (nN b n) (lt' b o e)]; exact n) (fun b o _ e => ?_) (fun b xs e => by rw [at_ b (nP b _ e (fun q z => by cases z)) (sm b _ e)]; exact e) (fun b o u e => by rw [at_ b (nP b _ e (fun q z => by cases z)) (sm b _ e)]; exact e) (fun b qs e => ?_) (fun m hn => ?_) (fun b u e => ?_) I.bare
  · by_cases hb : b = P
    · rw [hb]
      exact ⟨_, hm⟩
    · exact ⟨o, k b o hb e⟩
  · by_cases hb : b = P
    · rw [hb, hP] at e
      cases e
      rw [hb, atP]
      exact ⟨more, rfl⟩
    · rw [at_ b hb (sm b _ e), e]
      exact ⟨#[], by simp⟩
  · obtain ⟨ob, es, ep, ho, r⟩ := hn
    exact ⟨ob, es, ep, k _ ob (nN _ I.free) ho, r⟩
  · by_cases hb : b = c
    · rw [hb, upd_same] at e
      cases e
      rw [hb]
      obtain ⟨e1, vs, t, e2, e3⟩ := ho
      exact ⟨e1, ⟨oc, vs, t, e1, e2, e3⟩, ⟨oc, e1⟩, fun h1 h2 ⟨oc, vs, t, a, b, c⟩ st => ⟨oc, vs, t, st _ a, b, c⟩⟩
    · by_cases hb2 : b = P
      · rw [hb2, atP] at e
        cases e
        rw [hb2]
        exact hm
      · rw [at_ b hb2 hb] at e
        refine (I.hok b u e).stay (fun d v hd q => k d v ?_ q) (fun d q => by rw [at_ d (nP d _ q (fun q z => by cases z)) (sm d _ q)]; exact q) fun d xs q => by rw [at_ d (nP d _ q (fun q z => by cases z)) (sm d _ q)]; exact q
        rcases hd with z | z
        · rw [z]
          exact hb2
        · exact nP d _ z (fun q z => by cases z)
theorem lam_makeF {f0 : Str} {P c : Addr} {params : Arguments} {body : Expr} {scope : Scope} {pos : Pos} {E : Value → Shared → Prop} {Q : Value → Shared → Prop} (I : Inv X pins σ H s) (m : RepM X.K M H) (hM : M P = some (.tbl f0)) (TB : TabB X.base X.mg c P) (hcode : X.env.code = .ref c)
    (hq : X.env.qual ++ "<lambda>" = lamQ f0) (hdef : defaultsOf params X.env = ([], [])) (hfree : ∀ y ∈ scope.names, y.2 = .free → ∃ c, X.env.cells.lookup y.1 = some c)
    (h : ∀ (f c' : Addr) (oc : Obj) (pm ctv : Value) (H1 : Hp) (s' : Shared), Inv X pins σ H1 s' → Fr M H M H1 → RepM X.K M H1 →
      s'.heap.get? f = some (PySem.W.kla_obj "<lambda>" (X.env.qual ++ "<lambda>") params body scope (cloFrom X.env.cells scope.names []) pm c' ctv) → H1 f = none → f ∉ frs X.stack → H1 c' = some (.frz oc (CodeO c' (X.env.qual ++ "<lambda>"))) → Q (.ref f) s') :
    wpAny (model X.prog X.w) X.A (eval (.Lambda params body scope pos) X.env) Q E s := by
  obtain ⟨eP, ps, hP, ht, ha⟩ := m _ _ hM
  rw [← hq] at ha
  refine PySem.W.kla_eval hdef ?_
  have bP : s.heap.BuiltinsAt X.mg P := TB.bm.keeps I.bk
  have hP' : s.heap.get? P = some { cls := .none, data := .fields ps } := I.hok P _ hP
  have nofr : ∀ f, s.heap.objs.size ≤ f → f ∉ frs X.stack := fun f hf z => by
    rcases List.mem_cons.mp (I.stkSub _ z) with e | e
    · have h1 := I.lt
      rw [← e] at h1
      exact Nat.lt_irrefl _ (Nat.lt_of_lt_of_le h1 hf)
    · exact I.nofs hf e
  cases hc : codeAmong pos ps.toList with
  | none =>
    refine PySem.W.kla_makeFunction (mg := X.mg) (c := c) (P := P) (ps := ps) (closure_ok hfree) I.ok.glob (I.mod.glob.keeps I.bk) hcode (TB.code.keeps I.bk) hP' ht hc TB.gP bP fun c' ctv h' tk hx hge hlt hrec htb => ?_
    obtain ⟨c2, oc, vs, t, e2, hoc, hd, hv⟩ := hrec
    cases e2
    have hsz : s.heap.objs.size ≤ h'.objs.size := Nat.le_trans hge (Nat.le_of_lt hlt)
    have nC : H c' = none := I.hok.fresh hge
    have I1 := inv_tableF (t' := tk) (oc := oc) (more := #[rawInt pos.line, rawInt pos.col, .ref c']) (h' := h'.push (PySem.W.kla_obj "<lambda>" (X.env.qual ++ "<lambda>") params body scope (cloFrom X.env.cells scope.names []) ((X.mg "__name__").getD .none) c' ctv)) I hP
      (fun b o hb e => Heap.get?_push_of_some _ (hx b o hb e)) (Heap.get?_push_of_some _ htb) hge ⟨Heap.get?_push_of_some _ hoc, vs, t, hd, hv⟩
    have nPc : P ≠ c' := ne_of_none hP nC
    have fr : Fr M H M (upd (upd H P (.tbl (ps ++ #[rawInt pos.line, rawInt pos.col, .ref c']))) c' (.frz oc (CodeO c' (X.env.qual ++ "<lambda>")))) := fun b u e n => by
      have h1 : b ≠ P := fun z => by rw [z, hM] at n; cases n
      exact ⟨by rw [upd_ne (ne_of_none e nC), upd_ne h1]; exact e, n⟩
    have kf := fr.keep m
    have m1 : RepM X.K M (upd (upd H P (.tbl (ps ++ #[rawInt pos.line, rawInt pos.col, .ref c']))) c' (.frz oc (CodeO c' (X.env.qual ++ "<lambda>")))) := fun b u e => by
      by_cases hb : b = P
      · subst hb
        rw [hM] at e
        cases e
        have eL : (ps ++ #[rawInt pos.line, rawInt pos.col, .ref c']).toList = ps.toList ++ [rawInt pos.line, rawInt pos.col, .ref c'] := by simp
        refine ⟨eP, _, by rw [upd_ne nPc, upd_same], by rw [eL]; exact PySem.TriplesOk_snoc _ _ _ _ ht, fun p' cv hcv => ?_⟩
        rw [eL] at hcv
        rw [← hq]
        rcases among_app _ ht hcv with z | z
        · obtain ⟨c0, o0, e1, e2⟩ := ha p' cv z
          exact ⟨c0, o0, e1, kf.frz _ _ _ e2⟩
        · exact ⟨c', oc, z, upd_same⟩
      · have r := m b u e
        obtain ⟨u', e1, _⟩ := r.some
        exact r.keep kf (by rw [upd_ne (ne_of_none e1 nC), upd_ne hb])
    refine h h'.objs.size c' oc ((X.mg "__name__").getD .none) ctv _ _ I1 fr m1 (Heap.get?_push_size _ rfl) ?_ (nofr _ hsz) upd_same
    have n1 : h'.objs.size ≠ c' := Nat.ne_of_gt hlt
    have n2 : h'.objs.size ≠ P := Nat.ne_of_gt (Nat.lt_of_lt_of_le (Heap.lt_size hP') hsz)
    rw [upd_ne n1, upd_ne n2]
    exact I.hok.fresh hsz
  | some cv =>
    obtain ⟨c', oc, e, hco⟩ := ha pos cv hc
    subst e
    refine PySem.W.kla_makeFunctionHit (mg := X.mg) (c := c) (P := P) (ps := ps) (closure_ok hfree) I.ok.glob (I.mod.glob.keeps I.bk) hcode (TB.code.keeps I.bk) hP' ht hc bP fun ctv h' tk hx hsz => ?_
    have I1 : Inv X pins σ H { s with heap := h'.push (PySem.W.kla_obj "<lambda>" (X.env.qual ++ "<lambda>") params body scope (cloFrom X.env.cells scope.names []) ((X.mg "__name__").getD .none) c' ctv), toks := tk } := I.kept fun b o e => Heap.get?_push_of_some _ (hx b o e)
    exact h h'.objs.size c' oc ((X.mg "__name__").getD .none) ctv H _ I1 .refl m (Heap.get?_push_size _ rfl) (I.hok.fresh hsz) (nofr _ hsz) hco
end
end RX
set_option Elab.async false
set_option linter.all false
set_option maxRecDepth 100000
set_option maxHeartbeats 4000000
/-! XT3: what was handed in is called. -/
namespace RX
open PySem PySem.Spec PyProof.Rows L2 LamX
/-- room for the def that is handed a lambda, for the lambda, and for what it calls -/
structure Slk (k : Nat) (A : Around) : Prop where
  hd : A.handled = none
  dp : A.depth + 3 * k + 7 < recursionLimit
  un : A.units + 16 * k + 206 < cLine
  k1 : 1 ≤ k
theorem Slk.here {k : Nat} {A : Around} (r : Slk k A) : Room 1 A := ⟨r.hd, by have := r.dp; have := r.k1; omega, by have := r.un; have := r.k1; omega⟩
theorem Slk.one {k : Nat} {A : Around} (r : Slk k A) (e : Env) : Room k (A.deeper e) := ⟨(r.here.deeper e).hd, by have := r.dp; show A.depth + 1 + 3 * k + 5 < _; omega, by have := r.un; show A.units + 3 + 16 * k + 200 < _; omega⟩
theorem Slk.two {k : Nat} {A : Around} (r : Slk k A) (e e' : Env) : Room k ((A.deeper e).deeper e') :=
  ⟨(Room.deeper (k := 0) (Room.mono (j := 1) (r.one e) r.k1) e').hd, by have := r.dp; show A.depth + 1 + 1 + 3 * k + 5 < _; omega, by have := r.un; show A.units + 3 + 3 + 16 * k + 200 < _; omega⟩
theorem Slk.of {k : Nat} {A : Around} (r : Room (k + 1) A) (h : 1 ≤ k) (e : Env) : Slk k (A.deeper e) := ⟨(r.deeper e).hd, by have := r.dp; show A.depth + 1 + 3 * k + 7 < _; omega, by have := r.un; show A.units + 3 + 16 * k + 206 < _; omega, h⟩
section
variable {X : Cx} {pins : List (Addr × Obj)} {σ : L2.St} {H : Hp} {s : Shared}
/-- x(), in the def that got the lambda; what its exceptions wish is told at the call -/
theorem pe_actF {CXg : CXT} {Eg : XK} {Ng : List Str} {qg : Str} {sg : Scope} {g f c' : Addr} {cdg pm ctv : Value} {params : Arguments} {body : Expr} {scope : Scope} {k i : Nat} {a : Str} {pn : List (Addr × Obj)} {xe xe0 : Value → Shared → Prop} {W : WX} {tb : XK → TE} {p1 p2 : Pos}
    (I : Inv X pins σ H s) (L : LamS X.env.scope scope) (hf : s.heap.get? f = some (PySem.W.kla_obj "<lambda>" (X.env.qual ++ "<lambda>") params body scope (cloFrom X.env.cells scope.names []) pm c' ctv)) (hfn : H f = none) (hfr : f ∉ frs X.stack)
    (hbind : bindArgs (PySem.W.kla_fn "<lambda>" (X.env.qual ++ "<lambda>") params body scope (cloFrom X.env.cells scope.names []) pm (.ref c') ctv) ⟨[], []⟩ = pure [])
    (tk : Takes (((cxOf CXg X.prog X.w X.K X.mg X.base Ng qg sg g cdg X.A X.stack s H Eg).wish xe0).tr pn xe) W) (hr : Slk k X.A) (hgd : X.A.guards = some [])
    (hbody : ∀ (E : XK) (A : Around) (outer : List Env) (s : Shared) (H : Hp), Room k (A.deeper (lamEnv X scope s.heap.objs.size f c')) → A.guards = some [] → PE (lamCx X A outer s H E scope f c') body (tb E))
    (hN : Ng[i]? = some a) (hv : Vis sg a) (hd : (a == ("__debug__" : Str)) = false) (hcd : (a == ("__classdict__" : Str)) = false) :
    PE (((cxOf CXg X.prog X.w X.K X.mg X.base Ng qg sg g cdg X.A X.stack s H Eg).wish xe0).tr pn xe) (.Call (.Name a p1) [] [] p2)
      (fun σZ HZ Q => σZ[i]? = some (some (.ref f)) ∧ (∃ oc, HZ c' = some (.frz oc (CodeO c' (X.env.qual ++ "<lambda>")))) ∧ ∃ E : XK, (∀ cls d H', E cls d H' → W cls d σZ H') ∧ tb E σ HZ Q) := by
  refine ⟨fun pinsZ sZ σZ HZ Q IZ h => ?_⟩
  obtain ⟨hs, ⟨ocf, hc⟩, E, hW, ht⟩ := h
  refine wpAny_Call_Name_kw (thn ((pe_var (pos := p1) (i := i) hN hv hd hcd).run pinsZ sZ σZ HZ (fun v H1 => v = .ref f ∧ H1 = HZ) IZ ⟨.ref f, hs, rfl, rfl⟩) fun u s1 ⟨v, H1, I1, r1, q1⟩ => ?_)
  obtain ⟨ev, eH⟩ := q1
  subst ev
  rw [eH] at I1
  obtain rfl : u = Value.ref f := r1
  have of1 : s1.heap.get? f = some (PySem.W.kla_obj "<lambda>" (X.env.qual ++ "<lambda>") params body scope (cloFrom X.env.cells scope.names []) pm c' ctv) := I1.base.keep f _ hf hfn hfr (fun z => nomatch (show f ∈ ([] : List Addr) from z))
  refine PySem.W.callWith_F0 ⟨_, _, _, _, of1⟩ ?_
  have un : Un (frs X.stack) [] H HZ s.heap s1.heap := I1.base
  obtain ⟨_, ⟨oc, vs, t, hoc, hdc, hvc⟩, _, _⟩ := I1.hok c' _ hc
  have rc : codeAny (model X.prog X.w) (X.A.deeper (envOfC qg sg s.heap.objs.size g cdg)) (.call (.ref f) ⟨[], []⟩) (CR (L2.CX X.prog X.w) (envOfC qg sg s.heap.objs.size g cdg :: X.stack) X.prog X.w HZ s1 Q E) s1 := by
    refine PySem.W.kla_callFunE (hr.one _).depth of1 rfl L.co L.gen rfl ⟨c', oc, vs, t, rfl, hoc, hdc, hvc⟩ ?_
    rw [hbind]
    refine wpAny_pure (wpAny_newFunctionEnv (fun y hy => (L.own y hy).2) (fun y hy => absurd hy (by simp)) (fun h₁ hns hsb => ⟨I1.nolimit.fresh _ hsb, ?_⟩) L.kind)
    show codeAny _ _ (.expr body (lamEnv X scope s1.heap.objs.size f c')) _ _
    have kp : ∀ b o, s1.heap.get? b = some o → h₁.get? b = some o := fun b o e => hsb.extBut b o (Nat.ne_of_lt (Heap.lt_size e)) (Heap.get?_push_of_some _ e)
    have J : Inv (lamCx X (X.A.deeper (envOfC qg sg s.heap.objs.size g cdg)) (envOfC qg sg s.heap.objs.size g cdg :: X.stack) s1 HZ E scope f c') [] σ HZ { s1 with heap := h₁, toks := s1.toks + ([] : List (Str × Value)).length } :=
      lam_start2 I L I1.env0 (hr.one _).hd un hns kp
    refine PySem.W.kla_codeExpr (wpAny_mono ((hbody E _ _ s1 HZ (hr.two _ _) hgd).run [] _ _ HZ Q J ht) (fun v s' hq => ?_) fun e s' hq => hq)
    obtain ⟨w', H', J', rv, q⟩ := hq
    exact ⟨w', H', J'.os, J'.bare, J'.base, J'.hok, rv, q⟩
  refine wpAny_call (codeAny_mono rc fun r s' hq => ?_)
  cases r with
  | error e => exact tk e s' (XE.of_call I1 (fun cls d H' h => hW cls d H' h) hq)
  | ok fl =>
    cases fl with
    | ret u => exact I1.after hq
    | next => exact False.elim hq
    | brk => exact False.elim hq
    | cont => exact False.elim hq
end
end RX
set_option Elab.async false
set_option linter.all false
set_option maxRecDepth 100000
set_option maxHeartbeats 4000000
/-! XT4: try with several clauses, over trees. -/
namespace RX
open PySem PySem.Spec PyProof.Rows L2 L2H
abbrev WH : Type := Str → Str → D → MM → DV → Prop
structure Clz where
  Cn : Str
  subs : List Str
  on : Option Nat
  wh : WH
/-- what the clauses make of an exception -/
def pickC (E : ED) (C f : Str) (x : D) (σ : DSt) (M : MM) (Q : DV) : List Clz → Prop
  | [] => E C [f] [x] σ M
  | c :: r => Bif (decide (C ∈ c.subs)) (c.wh C f x M Q) (pickC E C f x σ M Q r)
def hxM (all : List Str) (l : List Clz) (E : ED) (Dd : DEnds) : ED := fun C ks vs σ1 M1 => C ∈ all ∧ ∃ f x, ks = [f] ∧ vs = [x] ∧ pickC E C f x σ1 M1 Dd.rt l
/-- the suite's wish at the state -/
def hxC (K : PySem.W.Frag) (c : Clz) : Addr → Value → Option Addr → TS := fun a cls d Dd σ H => ∃ (C f : Str) (x : D) (dx : Addr) (v : V) (σd : DSt) (σ1 : SV) (M : MM) (Q : DV), cls = .ref (He.ga K C) ∧ d = some dx ∧ XbF K (He.ga K C) ∧ XdF H dx f v ∧ Rep K H x v ∧ σ = (match c.on with
    | none => σ1
    | some i => σ1.set i (some (.ref a))) ∧ RepS K H σd σ1 ∧ RepM K M H ∧
  c.wh C f x M Q ∧ ∀ y M' u H', Fr M H M' H' → Rep K H' y u → RepM K M' H' → Q y M' → Dd.rt u H'
def claOf (K : PySem.W.Frag) (c : Clz) : Cla := (.ref (He.ga K c.Cn), c.on, hxC K c)
inductive ClsOk (X : Cx) (all : List Str) : List ExceptHandler → List Clz → Prop
  | nil : ClsOk X all [] []
  | bare {Cn : Str} {subs : List Str} {wh : WH} {e : Expr} {np rp pos' : Pos} {hds : List ExceptHandler} {l : List Clz} (hc : Names X Cn (.ref (He.ga X.K Cn))) (hx : ∀ C ∈ all, PySem.W.exmOne X.K (.ref (He.ga X.K C)) (.ref (He.ga X.K Cn)) = some (decide (C ∈ subs)))
      (hsu : ∀ (a : Addr) (oe : Obj) (pn : List (Addr × Obj)) (C f : Str) (x : D) (dx : Addr) (v : V) (B' : Bs), Hot (X.suite a ((a, oe) :: pn)) B' a oe C f x dx v → PE (X.suite a ((a, oe) :: pn)) e (LE X.K B' fun _ M Q => wh C f x M Q)) (r : ClsOk X all hds l) :
      ClsOk X all (.ExceptHandler (some (.Name Cn np)) none [.Return (some e) rp] pos' :: hds) (⟨Cn, subs, none, wh⟩ :: l)
  | named {Cn n : Str} {subs : List Str} {i : Nat} {wh : WH} {e : Expr} {np rp pos' : Pos} {hds : List ExceptHandler} {l : List Clz} (hi : X.N[i]? = some n) (hln : X.env.kindOf n = some .local) (hc : Names X Cn (.ref (He.ga X.K Cn))) (hx : ∀ C ∈ all, PySem.W.exmOne X.K (.ref (He.ga X.K C)) (.ref (He.ga X.K Cn)) = some (decide (C ∈ subs)))
      (hsu : ∀ (a : Addr) (oe : Obj) (pn : List (Addr × Obj)) (C f : Str) (x : D) (dx : Addr) (v : V) (B' : Bs), Hot (X.suite a ((a, oe) :: pn)) B' a oe C f x dx v → PE (X.suite a ((a, oe) :: pn)) e (LE X.K B' fun σ M Q => σ[i]? = some (some (.ref a)) ∧ wh C f x M Q)) (r : ClsOk X all hds l) :
      ClsOk X all (.ExceptHandler (some (.Name Cn np)) (some n) [.Return (some e) rp] pos' :: hds) (⟨Cn, subs, some i, wh⟩ :: l)
section
variable {X : Cx} {B : Bs} {all : List Str}
theorem ClsOk.mix {hds : List ExceptHandler} {l : List Clz} (h : ClsOk X all hds l) : HdsMix X hds (l.map (claOf X.K)) := by
  induction h with
  | nil => exact .nil
  | @bare Cn subs wh e np rp pos' hds l hc hx hsu r ih =>
    refine .bare hc (fun a oe cls d pn hz hfl => ⟨fun pins s σ H Dd I ⟨C, f, x, dx, v, σd1, σ1, M, Q, e1, e2, hC, hxd, hxr, es, rs, rm, hw, hend⟩ => ?_⟩) ih
    subst e1 e2 es
    have hh : Hot (X.suite a ((a, oe) :: pn)) (M, H) a oe C f x dx v := ⟨List.mem_cons_self, hz, hfl, hxd, hxr, rm, hC⟩
    have he := hsu a oe pn C f x dx v (M, H) hh
    have q := (lss_cons (ls_ret (pos := rp) (X := X.suite a ((a, oe) :: pn)) (B := (M, H)) he) lss_nil).run pins s _ H Dd I
    exact q ⟨σd1, M, { nx := fun _ _ => False, rt := Q }, ⟨.refl, rs, rm⟩, hw, ⟨fun _ _ _ _ _ _ _ z => z.elim, hend, fun _ _ _ _ _ _ _ z => z.elim, fun _ _ _ _ _ _ _ z => z.elim⟩⟩
  | @named Cn n subs i wh e np rp pos' hds l hi hln hc hx hsu r ih =>
    refine .named hi hln hc (fun a oe cls d pn hz hfl => ⟨fun pins s σ H Dd I ⟨C, f, x, dx, v, σd1, σ1, M, Q, e1, e2, hC, hxd, hxr, es, rs, rm, hw, hend⟩ => ?_⟩) ih
    subst e1 e2
    have es : σ = σ1.set i (some (.ref a)) := es
    subst es
    have hh : Hot (X.suite a ((a, oe) :: pn)) (M, H) a oe C f x dx v := ⟨List.mem_cons_self, hz, hfl, hxd, hxr, rm, hC⟩
    have he := hsu a oe pn C f x dx v (M, H) hh
    have hlen : σd1.length = σ1.length := Paired.length rs
    have hlt : i < σd1.length := by
      have h1 := I.len
      rw [List.length_set, ← hlen] at h1
      rw [h1]
      obtain ⟨h2, _⟩ := List.getElem?_eq_some_iff.mp hi
      exact h2
    have q := (lss_cons (ls_ret (pos := rp) (X := X.suite a ((a, oe) :: pn)) (B := (M, H)) he) lss_nil).run pins s _ H Dd I
    refine q ⟨σd1.set i (some (.ref a)), M, { nx := fun _ _ => False, rt := Q }, ⟨.refl, RepS.set i rs (show RelD X.K H (some (.ref a)) (some (.ref a)) from mk_ref (K := X.K) (H := H) a), rm⟩, ⟨?_, hw⟩, ⟨fun _ _ _ _ _ _ _ z => z.elim, hend, fun _ _ _ _ _ _ _ z => z.elim, fun _ _ _ _ _ _ _ z => z.elim⟩⟩
    rw [List.getElem?_set_self hlt]
theorem ClsOk.pick {hds : List ExceptHandler} {l : List Clz} (h : ClsOk X all hds l) {E : ED} {M : MM} {H : Hp} {C f : Str} {x : D} {dx : Addr} {v : V} {σd1 : DSt} {σ1 : SV} {M1 : MM} {H1 : Hp} {Dd : Ends} {Qd : DV} {W : WX} (hC : C ∈ all) (hb : XbF X.K (He.ga X.K C)) (h1 : XdF H1 dx f v) (h2 : Rep X.K H1 x v) (rs : RepS X.K H1 σd1 σ1) (rm : RepM X.K M1 H1)
    (hend : ∀ y M' u H', Fr M1 H1 M' H' → Rep X.K H' y u → RepM X.K M' H' → Qd y M' → Dd.rt u H') (hW : E C [f] [x] σd1 M1 → W (.ref (He.ga X.K C)) (some dx) σ1 H1) (q : pickC E C f x σd1 M1 Qd l) : wMix X.K W Dd (l.map (claOf X.K)) (.ref (He.ga X.K C)) (some dx) σ1 H1 := by
  induction h with
  | nil => exact hW q
  | @bare Cn subs wh e np rp pos' hds l hc hx hsu r ih =>
    exact ⟨_, hx C hC, fun hb1 p hp => ⟨C, f, x, dx, v, σd1, σ1, M1, Qd, rfl, rfl, hb, h1, h2, rfl, rs, rm, q.1 hb1, hend⟩, fun hb1 => ih (q.2 hb1)⟩
  | @named Cn n subs i wh e np rp pos' hds l hi hln hc hx hsu r ih =>
    exact ⟨_, hx C hC, fun hb1 p hp => ⟨C, f, x, dx, v, σd1, σ1, M1, Qd, rfl, rfl, hb, h1, h2, rfl, rs, rm, q.1 hb1, hend⟩, fun hb1 => ih (q.2 hb1)⟩
theorem ls_tryM {l : List Clz} {body : List Stmt} {h₀ : ExceptHandler} {hds : List ExceptHandler} {pos : Pos} {E : ED} {t : ED → DS} (hs : X.stack = X.env :: X.outer) (hf : X.env.frame = some X.env.locals) (hN : X.N.Nodup) (tk : Takes X (WXE X.K B E)) (hal : ∀ C ∈ all, XbF X.K (He.ga X.K C)) (hh : ClsOk X all (h₀ :: hds) l)
    (hb : ∀ (E' : ED) (M' : MM) (H' : Hp) (pn : List (Addr × Obj)) (xe : Value → Shared → Prop), Fr B.1 B.2 M' H' → RepM X.K M' H' → Takes (X.tr pn xe) (WXE X.K (M', H') E') → PassesOwn (model X.prog X.w) X.A X.env xe → PSs (X.tr pn xe) body (LS X.K (M', H') (t E'))) :
    PS X (.Try body (h₀ :: hds) [] [] pos) (LS X.K B fun Dd σ M => t (hxM all l E Dd) Dd σ M) := by
  have z := ps_try_mix (pos := pos) (body := body) (Wout := WXE X.K B E) (tb := fun W => fun Dd σ H => ∃ (E' : ED) (M' : MM) (H' : Hp), Fr B.1 B.2 M' H' ∧ RepM X.K M' H' ∧ (∀ cls d σ1 H1, WXE X.K (M', H') E' cls d σ1 H1 → W cls d σ1 H1) ∧ LS X.K (M', H') (t E') Dd σ H) hs hf hN tk
    (fun W pn xe tk' po => ⟨fun pins s σ H Dd I ⟨E', M', H', f1, m1, hW, hl⟩ => (hb E' M' H' pn xe f1 m1 (tk'.imp fun c d σ H h => hW c d σ H h) po).run pins s σ H Dd I hl⟩) hh.mix
  refine z.imp fun Dd σ H ⟨σd, M, Qd, a, ht, ends⟩ => ?_
  refine ⟨hxM all l E Qd, M, H, a.b, a.m, fun cls d σ1 H1 ⟨C, f, x, dx, v, σd1, M1, e1, e2, h1, h2, a1, q⟩ => ?_, σd, M, Qd, ⟨.refl, a.s, a.m⟩, ht, ends⟩
  subst e1 e2
  obtain ⟨hC, f', x', ef, ex, q⟩ := q
  cases ef
  cases ex
  exact hh.pick (M := M) (H := H) hC (hal C hC) h1 h2 a1.s a1.m (fun y M' u H' fr r m qq => ends.rt y M' u H' (a1.b.trans fr) r m qq) (fun q => ⟨C, f, x, dx, v, σd1, M1, rfl, rfl, h1, h2, ⟨a.b.trans a1.b, a1.s, a1.m⟩, q⟩) q
end
end RX
set_option Elab.async false
set_option linter.all false
set_option maxRecDepth 100000
set_option maxHeartbeats 4000000
/-! XT5: a lambda handed to a def that calls it within try. -/
namespace RX
open PySem PySem.Spec PyProof.Rows L2 LamX
/-- the lambda's wish, by what its exceptions wish -/
def tbR (K : PySem.W.Frag) (tc : ED → DE) (E : XK) : TE := fun σ H' Q => ∃ (M1 : MM) (H1 : Hp) (Ed : XD), E = KXd K M1 H1 Ed ∧ LE K (M1, H1) (tc fun C ks vs _ M' => ∃ M'', Sub M'' M' ∧ Ed C ks vs M'') σ H' Q
section
variable {X : Cx} {pins : List (Addr × Obj)} {σ : L2.St} {H : Hp} {s : Shared}
theorem le_act {tc : ED → DE} {CXg : CXT} {Eg : XK} {Ng : List Str} {qg : Str} {sg : Scope} {g f c' : Addr} {cdg pm ctv : Value} {params : Arguments} {body : Expr} {scope : Scope} {k i : Nat} {a : Str} {pn : List (Addr × Obj)} {xe xe0 : Value → Shared → Prop} {EZ : ED} {M0 : MM} {H0 : Hp} {σd0 : DSt} {p1 p2 : Pos}
    (I : Inv X pins σ H s) (L : LamS X.env.scope scope) (hf : s.heap.get? f = some (PySem.W.kla_obj "<lambda>" (X.env.qual ++ "<lambda>") params body scope (cloFrom X.env.cells scope.names []) pm c' ctv)) (hfn : H f = none) (hfr : f ∉ frs X.stack)
    (hbind : bindArgs (PySem.W.kla_fn "<lambda>" (X.env.qual ++ "<lambda>") params body scope (cloFrom X.env.cells scope.names []) pm (.ref c') ctv) ⟨[], []⟩ = pure [])
    (tk : Takes (((cxOf CXg X.prog X.w X.K X.mg X.base Ng qg sg g cdg X.A X.stack s H Eg).wish xe0).tr pn xe) (WXE X.K (M0, H0) EZ)) (hr : Slk k X.A) (hgd : X.A.guards = some [])
    (hbody : ∀ (E : XK) (A : Around) (outer : List Env) (s : Shared) (H : Hp), Room k (A.deeper (lamEnv X scope s.heap.objs.size f c')) → A.guards = some [] → PE (lamCx X A outer s H E scope f c') body (tbR X.K tc E))
    (r0 : RepS X.K H0 σd0 σ) (m0 : RepM X.K M0 H0) (c0 : ∃ oc, H0 c' = some (.frz oc (CodeO c' (X.env.qual ++ "<lambda>"))))
    (hN : Ng[i]? = some a) (hv : Vis sg a) (hd : (a == ("__debug__" : Str)) = false) (hcd : (a == ("__classdict__" : Str)) = false) :
    PE (((cxOf CXg X.prog X.w X.K X.mg X.base Ng qg sg g cdg X.A X.stack s H Eg).wish xe0).tr pn xe) (.Call (.Name a p1) [] [] p2)
      (LE X.K (M0, H0) fun σdZ M Q => σdZ[i]? = some (some (.ref f)) ∧ tc (fun C ks vs _ M' => ∃ M'', Sub M'' M' ∧ EZ C ks vs σdZ M'') σd0 M Q) := by
  refine (pe_actF (p1 := p1) (p2 := p2) (i := i) I L hf hfn hfr hbind tk hr hgd hbody hN hv hd hcd).imp fun σZ HZ Q ⟨σdZ, MZ, Qd, at_, ⟨e1, ht⟩, k⟩ => ?_
  have kf := at_.b.keep m0
  obtain ⟨u, eu, ru⟩ := at_.s.get e1
  cases (rep_ref ru)
  obtain ⟨oc, hoc⟩ := c0
  refine ⟨eu, ⟨oc, kf.frz _ _ _ hoc⟩, KXd X.K MZ HZ (fun C ks vs M' => EZ C ks vs σdZ M'), fun cls d H' ⟨C, f', x, dx, v, M', e2, e3, hxd, hx, rm, fr, q⟩ => ?_, MZ, HZ, _, rfl, σd0, MZ, Qd, ⟨.refl, r0.keep kf, at_.m⟩, ht, k⟩
  exact ⟨C, f', x, dx, v, σdZ, M', e2, e3, hxd, hx, at_.go fr rm, q⟩
end
/-- its text -/
inductive HdSh (a : Str) : HF → List Stmt → List Stmt → Prop
  | told (w : Str) (j : Nat) (p1 p2 p3 p4 p5 : Pos) : HdSh a (.told w) [.Return (some (.List [.Constant (.str w) j p1, .Call (.Name a p2) [] [] p3] p4)) p5] []
  | drop0 (p2 p3 p4 p5 p6 : Pos) : HdSh a (.drop none) [.Expr (.Call (.Name a p2) [] [] p3) p4] [.Return (some (.List [] p5)) p6]
  | dropS (z : Str) (j : Nat) (p2 p3 p4 p5 p6 : Pos) : HdSh a (.drop (some z)) [.Expr (.Call (.Name a p2) [] [] p3) p4] [.Return (some (.Constant (.str z) j p5)) p6]
/-- what the clauses make of the lambda's exceptions -/
def hdE (all : List Str) (l : List Clz) (Q : DV) : ED := fun C ks vs σ1 M1 => C ∈ all ∧ ∃ f x, ks = [f] ∧ vs = [x] ∧ pickC EF0 C f x [] M1 Q l
theorem pick_slots {C f : Str} {x : D} {M : MM} {Q : DV} {σ1 σ2 : DSt} : ∀ l : List Clz, pickC EF0 C f x σ1 M Q l = pickC EF0 C f x σ2 M Q l
  | [] => rfl
  | c :: r => by
    show Bif _ _ (pickC EF0 C f x σ1 M Q r) = Bif _ _ (pickC EF0 C f x σ2 M Q r)
    rw [pick_slots r]
/-- the wish of x(lambda: ..) -/
def hdW (tc : ED → DE) (all : List Str) (l : List Clz) (fm : HF) (T : Str) : DE := fun σd M Q => (∃ P, M P = some (.tbl T)) ∧ tc (fun C ks vs σ1 M' => ∃ M'', Sub M'' M' ∧ hdE all l Q C ks vs σ1 M'') σd M (hfR fm Q)
theorem le_heard {X : Cx} {B : Bs} {tc : ED → DE} {all : List Str} {l : List Clz} {fm : HF} {T x a : Str} {g : Addr} {k : Nat} {pg : Arguments} {bd tl : List Stmt} {h₀ : ExceptHandler} {hds : List ExceptHandler} {sg : Scope} {dV kV doc pm cdv ct oc : Value} {an od : Option Addr} {osl : Array (Option Value)} {Ng : List Str}
    {params : Arguments} {body : Expr} {scope : Scope} {p lpos pos tp : Pos} (hg : Gl X x) (hm : X.mg x = some (.ref g)) (hk : PySem.W.keepIn X.K (.ref g) = true)
    (lk : X.K.lookup g = some ⟨oc, od, .func (PySem.W.fnOf x x pg (.Try bd (h₀ :: hds) [] [] tp :: tl) sg dV kV doc pm an cdv ct), osl⟩) (hcg : PySem.W.codeIn X.K cdv x = true) (hb : L2.Binds X.K (PySem.W.fnOf x x pg (.Try bd (h₀ :: hds) [] [] tp :: tl) sg dV kV doc pm an cdv ct) [a] []) (Sg : FnScope Ng [a] sg) (hNg : Ng[0]? = some a) (hva : Vis sg a)
    (sh : HdSh a fm bd tl) (hal : ∀ C ∈ all, XbF X.K (He.ga X.K C))
    (hcl : ∀ (s : Shared) (H : Hp), Room k (X.A.deeper (envOfC x sg s.heap.objs.size g cdv)) → ClsOk (cxOf C8.CX0 X.prog X.w X.K X.mg X.base Ng x sg g cdv X.A X.stack s H C8.E0).nox all (h₀ :: hds) l)
    (TB : TabB X.base X.mg (codA X.K T) (tabA X.K T)) (hcode : X.env.code = .ref (codA X.K T)) (hq : X.env.qual ++ "<lambda>" = lamQ T) (hr : Slk k X.A) (hgd : X.A.guards = some []) (L : LamS X.env.scope scope) (hdef : defaultsOf params X.env = ([], []))
    (hbind : ∀ (q : Str) (cl : List (Str × Addr)) (pm cv ctv : Value), bindArgs (PySem.W.kla_fn "<lambda>" q params body scope cl pm cv ctv) ⟨[], []⟩ = pure [])
    (hbody : ∀ (E : XK) (A : Around) (outer : List Env) (s : Shared) (H : Hp) (f c' : Addr), Room k (A.deeper (lamEnv X scope s.heap.objs.size f c')) → A.guards = some [] → PE (lamCx X A outer s H E scope f c') body (tbR X.K tc E))
    (hdb : (x == ("__debug__" : Str)) = false) (hd : (a == ("__debug__" : Str)) = false) (hcd : (a == ("__classdict__" : Str)) = false) :
    PE X (.Call (.Name x p) [.Lambda params body scope lpos] [] pos) (LE X.K B (hdW tc all l fm T)) := by
  refine pe_of fun pins s σ H σd M Qd I at_ ⟨⟨P, hP⟩, ht⟩ => ?_
  have eP : P = tabA X.K T := (at_.m _ _ hP).1
  subst eP
  refine wpAny_Call_Name_kw (ld_glob I hg hm ?_ hdb)
  refine PySem.W.callWith_K (h₀ := X.base) I.ok.mod.kin hk ?_ (by rfl) (by rfl)
  show wpAny _ _ (spliced ((false, eval (.Lambda params body scope lpos) X.env) :: backTo pos (starEach [] X.env))) _ _ s
  refine Calls.spliced_cons (lam_makeF I at_.m hP TB hcode hq hdef (L.has I.ok) fun f c' oc' pm' ctv H1 s' I1 fr m1 hf hfn hfr hco => ?_)
  refine Calls.spliced_nil ⟨I1.kIn, ?_⟩
  have r1 : RepS X.K H1 σd σ := at_.s.keep (fr.keep at_.m)
  have rc : codeAny (model X.prog X.w) X.A (.call (.ref g) ⟨[.ref f], []⟩) (CR C8.CX0 X.stack X.prog X.w H1 s' (KQ X.K M H1 Qd) C8.E0) s' := by
    refine run_ofS (N := Ng) (ps := [a]) (us := [.ref f]) (vs := [.ref f]) lk hcg Sg hr.here I1.env0 (hb s' [.ref f] I1.kIn rfl) (.cons rfl .nil) rfl fun hr' => ?_
    have hZ := hcl s' H1 (hr.one _)
    have s0 : ∀ n : Nat, RepS X.K H1 (some (.ref f) :: List.replicate n none) (some (.ref f) :: List.replicate n none) := fun n => by
      refine .cons (show RelD X.K H1 (some (.ref f)) (some (.ref f)) from mk_ref (K := X.K) (H := H1) f) ?_
      induction n with
      | zero => exact .nil
      | succ n ih => exact .cons trivial ih
    have est : L2.start Ng [.ref f] = some (.ref f) :: List.replicate (Ng.length - 1) none := rfl
    have eE : ∀ (Dd : DEnds), Dd.rt = Qd → (fun C ks vs (σ1 : DSt) M' => ∃ M'', Sub M'' M' ∧ hdE all l Qd C ks vs σ1 M'') = fun C ks vs (σ1 : DSt) M' => ∃ M'', Sub M'' M' ∧ hxM all l EF0 Dd C ks vs (some (.ref f) :: List.replicate (Ng.length - 1) none) M'' := fun Dd e => by
      funext C ks vs σ1 M'
      unfold hdE hxM
      rw [e]
      refine congrArg _ (funext fun M'' => ?_)
      refine congrArg _ (congrArg _ ?_)
      refine congrArg _ (funext fun f' => congrArg _ (funext fun x' => ?_))
      rw [pick_slots]
    have act := fun (E' : ED) (M' : MM) (H' : Hp) (pn : List (Addr × Obj)) (xe : Value → Shared → Prop) (p1 p2 : Pos) (fr' : Fr M H1 M' H') (rm' : RepM X.K M' H') (tk : Takes ((cxOf C8.CX0 X.prog X.w X.K X.mg X.base Ng x sg g cdv X.A X.stack s' H1 C8.E0).nox.tr pn xe) (WXE X.K (M', H') E')) =>
      le_act (tc := tc) (i := 0) (p1 := p1) (p2 := p2) (σd0 := σd) I1 L hf hfn hfr (hbind _ _ _ _ _) tk hr hgd (fun E A outer s H hr2 hg2 => hbody E A outer s H f c' hr2 hg2) (r1.keep (fr'.keep m1)) rm' ⟨oc', (fr'.keep m1).frz _ _ _ hco⟩ hNg hva hd hcd
    cases sh with
    | told w j p1 p2 p3 p4 p5 =>
      have z := ls_tryM (X := (cxOf C8.CX0 X.prog X.w X.K X.mg X.base Ng x sg g cdv X.A X.stack s' H1 C8.E0).nox) (B := (M, H1)) (E := EF0) (pos := tp) (t := fun E' Dd σZ MZ => σZ[0]? = some (some (.ref f)) ∧ tc (fun C ks vs _ M' => ∃ M'', Sub M'' M' ∧ E' C ks vs σZ M'') σd MZ fun d M1 => ([D.str w, d] : List D).length ≤ sizeLine ∧ newL true [.str w, d] M1 Dd.rt) rfl rfl Sg.nd takes_no hal hZ
        (fun E' M' H' pn xe fr' rm' tk po => lss_cons (ls_ret (pos := p5) (le_lst (fz := true) (pos := p4) (la_cons (le_tv (e := .Constant (.str w) j p1) pe_str fun H => mk_str w) (la_cons (act E' M' H' pn xe p2 p3 fr' rm' tk) la_nil rfl) rfl))) lss_nil)
      have zz := (lss_cons z lss_nil).nox
      refine ⟨_, zz, some (.ref f) :: List.replicate (Ng.length - 1) none, M, { nx := fun _ _ => False, rt := Qd }, ⟨.refl, by rw [est]; exact s0 _, m1⟩, ⟨rfl, ?_⟩, ?_⟩
      · rw [eE { nx := fun _ _ => False, rt := Qd } rfl] at ht
        have e2 : (fun (d : D) (M1 : MM) => ([D.str w, d] : List D).length ≤ sizeLine ∧ newL true [.str w, d] M1 Qd) = hfR (.told w) Qd := by
          funext d M1
          exact propext ⟨fun h => h.2, fun h => ⟨by rw [sizeLine_eq]; simp, h⟩⟩
        rw [← e2] at ht
        exact ht
      · exact ⟨fun _ _ _ _ _ _ _ q => q.elim, fun d M' v H' f2 r2 m2 q => ⟨d, M', f2, r2, m2, q⟩, fun _ _ _ _ _ _ _ q => q.elim, fun _ _ _ _ _ _ _ q => q.elim⟩
    | drop0 p2 p3 p4 p5 p6 =>
      have z := ls_tryM (X := (cxOf C8.CX0 X.prog X.w X.K X.mg X.base Ng x sg g cdv X.A X.stack s' H1 C8.E0).nox) (B := (M, H1)) (E := EF0) (pos := tp) (t := fun E' Dd σZ MZ => σZ[0]? = some (some (.ref f)) ∧ tc (fun C ks vs _ M' => ∃ M'', Sub M'' M' ∧ E' C ks vs σZ M'') σd MZ fun d M1 => Dd.nx σZ M1) rfl rfl Sg.nd takes_no hal hZ
        (fun E' M' H' pn xe fr' rm' tk po => lss_cons (ls_expr (pos := p4) (act E' M' H' pn xe p2 p3 fr' rm' tk) rfl) lss_nil)
      have zz := (lss_cons z (lss_cons (ls_ret (pos := p6) (le_lst (fz := true) (pos := p5) la_nil)) lss_nil)).nox
      refine ⟨_, zz, some (.ref f) :: List.replicate (Ng.length - 1) none, M, { nx := fun _ _ => False, rt := Qd }, ⟨.refl, by rw [est]; exact s0 _, m1⟩, ⟨rfl, ?_⟩, ?_⟩
      · rw [eE { nx := fun _ M' => ([] : List D).length ≤ sizeLine ∧ newL true [] M' Qd, rt := Qd } rfl] at ht
        have e2 : (fun (d : D) (M1 : MM) => ([] : List D).length ≤ sizeLine ∧ newL true [] M1 Qd) = hfR (.drop none) Qd := by
          funext d M1
          exact propext ⟨fun h => h.2, fun h => ⟨by rw [sizeLine_eq]; simp, h⟩⟩
        rw [← e2] at ht
        exact ht
      · exact ⟨fun _ _ _ _ _ _ _ q => q.elim, fun d M' v H' f2 r2 m2 q => ⟨d, M', f2, r2, m2, q⟩, fun _ _ _ _ _ _ _ q => q.elim, fun _ _ _ _ _ _ _ q => q.elim⟩
    | dropS z j p2 p3 p4 p5 p6 =>
      have zt := ls_tryM (X := (cxOf C8.CX0 X.prog X.w X.K X.mg X.base Ng x sg g cdv X.A X.stack s' H1 C8.E0).nox) (B := (M, H1)) (E := EF0) (pos := tp) (t := fun E' Dd σZ MZ => σZ[0]? = some (some (.ref f)) ∧ tc (fun C ks vs _ M' => ∃ M'', Sub M'' M' ∧ E' C ks vs σZ M'') σd MZ fun d M1 => Dd.nx σZ M1) rfl rfl Sg.nd takes_no hal hZ
        (fun E' M' H' pn xe fr' rm' tk po => lss_cons (ls_expr (pos := p4) (act E' M' H' pn xe p2 p3 fr' rm' tk) rfl) lss_nil)
      have zz := (lss_cons zt (lss_cons (ls_ret (pos := p6) (le_tv (e := .Constant (.str z) j p5) pe_str fun H => mk_str z)) lss_nil)).nox
      refine ⟨_, zz, some (.ref f) :: List.replicate (Ng.length - 1) none, M, { nx := fun _ _ => False, rt := Qd }, ⟨.refl, by rw [est]; exact s0 _, m1⟩, ⟨rfl, ?_⟩, ?_⟩
      · rw [eE { nx := fun _ M' => Qd (.str z) M', rt := Qd } rfl] at ht
        exact ht
      · exact ⟨fun _ _ _ _ _ _ _ q => q.elim, fun d M' v H' f2 r2 m2 q => ⟨d, M', f2, r2, m2, q⟩, fun _ _ _ _ _ _ _ q => q.elim, fun _ _ _ _ _ _ _ q => q.elim⟩
  refine wpAny_call (codeAny_mono rc fun r s2 hq => ?_)
  cases r with
  | error e => exact (show False from hq).elim
  | ok fl =>
    cases fl with
    | ret u =>
      obtain ⟨v, H2, I2, rv, d, M', f2, r2, m2, q⟩ := I1.after hq
      exact ⟨d, M', v, H2, I2, rv, fr.trans f2, r2, m2, q⟩
    | next => exact False.elim hq
    | brk => exact False.elim hq
    | cont => exact False.elim hq
end RX
set_option Elab.async false
set_option linter.all false
set_option maxRecDepth 100000
set_option maxHeartbeats 4000000
/-! RX11: a checker: does this program's tree read as that compact text? -/
namespace RX
open PySem PySem.Spec PyProof.Rows L2

structure Inf where
  N : List Str
  sc : Scope
  fsc : Option Scope
  lf : Str := ""
/-- the world of the defs: the table, the module's values, the fields, the names of keywords that are used -/
structure Wd where
  T : FId → Option CFun
  gl : Str → Option D
  fl : Str → Str → Bool
  kw : List (Str × List Str)
  wd : World
  xt : Xt
/-- no parameters -/
def noPar (p : Arguments) : Bool := p.posonlyargs.isEmpty && p.args.isEmpty && p.vararg.isNone && p.kwonlyargs.isEmpty && p.kw_defaults.isEmpty && p.kwarg.isNone && p.defaults.isEmpty
def emptySc : Scope := { kind := .function, names := [], isGenerator := false, isCoroutine := false, more := [] }
def badNames : List Str := ["__debug__", "__name__", "__classdict__"]
def glB (I : Inf) (x : Str) : Bool := decide (I.sc.names.lookup x = some .globalImplicit) && !(badNames.contains x)
def visB (I : Inf) (i : Nat) (x : Str) : Bool := decide (I.N[i]? = some x) && (match I.sc.names.lookup x with
  | some .local => true
  | some .cell => true
  | some .free => true
  | _ => false) && !(badNames.contains x)
def stoB (I : Inf) (i : Nat) (x : Str) : Bool := decide (I.N[i]? = some x) && (match I.sc.names.lookup x with
  | some .local => true
  | some .cell => (match I.fsc with
    | none => true
    | some s => decide (s.names.lookup x = some .cell))
  | _ => false)
def Inf.blk (I : Inf) (scope : Scope) : Inf := ⟨I.N, relS scope I.sc, some scope, ""⟩
def bfName : BF → Option Str
  | .len => some "len" | .int => some "int" | .str => some "str" | .tuple => some "tuple" | .list => some "list" | .abs => some "abs" | .all => some "all" | .any => some "any" | .sum => some "sum"
  | .repr => some "repr" | .min => some "min" | .max => some "max" | .divmod => some "divmod" | .dict => some "dict" | .sorted => some "sorted"
def bmName : BM → Option Str
  | .append => some "append" | .extend => some "extend" | .pop0 => some "pop" | .pop1 => some "pop" | .upper => some "upper" | .split => some "split" | .join => some "join" | .get2 => some "get" | .setdefault => some "setdefault" | _ => none
def bmArgs : BM → List Expr → Bool
  | .get2, [] => false
  | .setdefault, [] => false
  | .split, [] => false
  | .join, [] => false
  | _, _ => true
def nmName : NM → Str
  | .get2 => "get" | .setd2 => "setdefault"
def CEs.none? : CEs → Bool
  | .nil => true
  | _ => false
def isTys : List String := ["bool", "int", "str", "tuple", "list", "dict"]
def mTy1 (I : Inf) : Ty → Expr → Bool
  | .bt n, .Name y _ => decide (y = (n : Str)) && glB I y && decide (n ∈ isTys)
  | _, _ => false
def mTyL (I : Inf) : List Ty → List Expr → Bool
  | [], [] => true
  | t :: ts, e :: es => mTy1 I t e && mTyL I ts es
  | _, _ => false
def mTy (I : Inf) (ts : List Ty) (e : Expr) : Bool := match ts with
  | [t] => mTy1 I t e
  | ts => (match e with
    | .Tuple es _ _ => mTyL I ts es && decide (es.length < 10)
    | _ => false)
def gSlots : CG → List Nat
  | .name i => [i]
  | .tup gs => gSlotsL gs
  | .lup gs => gSlotsL gs
  | .sub _ _ => []
  | .nsub _ _ => []
where gSlotsL : CGs → List Nat
  | .nil => []
  | .cons g gs => gSlots g ++ gSlotsL gs
def CG.isTup : CG → Bool
  | .tup _ => true
  | .lup _ => true
  | _ => false
def kwNames (kws : List Keyword) : List (Option Str) := kws.map fun | ⟨n, _, _⟩ => n
def xbNames : List String := ["ValueError", "LookupError", "ArithmeticError", "TypeError", "AttributeError", "RuntimeError", "StopIteration"]
def mXT (I : Inf) : XT → Expr → Bool
  | .own C, .Name y _ => decide (y = C) && glB I y
  | .bt n, .Name y _ => decide (y = (n : Str)) && glB I y && decide (n ∈ xbNames)
  | _, _ => false
def mXTL (I : Inf) : List XT → List Expr → Bool
  | [], [] => true
  | t :: ts, e :: es => mXT I t e && mXTL I ts es
  | _, _ => false
/-- one class, or a tuple of built-in ones of which it is none -/
def mXTs (X : Xt) (I : Inf) (ds : List XT) (tab : List (Str × Bool)) (e : Expr) : Bool := match ds with
  | [d] => mXT I d e && !tab.isEmpty && tab.all fun p => decide (((p.1, d), p.2) ∈ X.is)
  | ds => (match e with
    | .Tuple es _ _ => mXTL I ds es && decide (es.length < 10) && (!tab.isEmpty && !ds.isEmpty) && (ds.all fun d => match d with | .bt _ => true | _ => false) && tab.all fun p => !p.2 && ds.all fun d => decide (((p.1, d), false) ∈ X.is)
    | _ => false)
mutual
/-- what is told of a caught exception; i: its name's slot -/
def mH (X : Xt) (hot : List (Str × List (Str × HV))) (subs : List Str) (i : Nat) (I : Inf) : HE → Expr → Bool
  | .var j, e => (match e with
    | .Name x _ => visB I j x && decide (j ≠ i)
    | _ => false)
  | .fld f, e => (match e with
    | .Attribute (.Name n _) name _ => decide (name = f) && visB I i n && nBase (.Name n ⟨0, 0, 0, 0⟩) && subs.all fun C => decide ((C, f) ∈ X.xc)
    | _ => false)
  | .str z, e => (match e with
    | .Constant (.str j) _ _ => decide (z = j)
    | _ => false)
  | .int z, e => (match e with
    | .Constant (.int j) _ _ => decide (z = j)
    | _ => false)
  | .repr a, e => (match e with
    | .Call (.Name x _) [y] [] _ => decide (x = "repr") && glB I x && nSt y && mH X hot subs i I a y
    | _ => false)
  | .cat a b, e => (match e with
    | .BinOp l .Add r _ => mH X hot subs i I a l && mH X hot subs i I b r
    | _ => false)
  | .isi d tab, e => (match e with
    | .Call (.Name x _) [.Name n _, t] [] _ => decide (x = "isinstance") && glB I x && visB I i n && nSt t && mXTs X I [d] tab t
    | _ => false)
  | .ifi d tab a b, e => (match e with
    | .IfExp (.Call (.Name x _) [.Name n _, t] [] _) y z _ => decide (x = "isinstance") && glB I x && visB I i n && nSt t && mXTs X I [d] tab t && mH X hot subs i I a y && mH X hot subs i I b z
    | _ => false)
  | .ix a b, e => (match e with
    | .Subscript x y _ => nSl y && mH X hot subs i I a x && mH X hot subs i I b y
    | _ => false)
  | .lst es, e => (match e with
    | .List xs _ => mHs X hot subs i I es xs
    | _ => false)
  | .tup es, e => (match e with
    | .Tuple xs _ _ => mHs X hot subs i I es xs
    | _ => false)
  | .hcall g, e => (match e with
    | .Call (.Name x _) [.Name n _] [] _ => decide (x = g) && glB I x && visB I i n && (hot.lookup g).isSome
    | _ => false)
  | .and a b, e => (match e with
    | .BoolOp .And [x, y] _ => mH X hot subs i I a x && mH X hot subs i I b y
    | _ => false)
  | .nev, _ => true
def mHs (X : Xt) (hot : List (Str × List (Str × HV))) (subs : List Str) (i : Nat) (I : Inf) : HEs → List Expr → Bool
  | .nil, l => l.isEmpty
  | .cons a as, l => (match l with
    | x :: xs => nSt x && mH X hot subs i I a x && mHs X hot subs i I as xs
    | [] => false)
end
section
variable (W : Wd)
mutual
def mE : CE → Inf → Expr → Bool
  | .var i, I, e => (match e with
    | .Name x _ => visB I i x
    | _ => false)
  | .glb y, I, e => (match e with
    | .Name x _ => decide (x = y) && glB I x
    | _ => false)
  | .int i, _, e => (match e with
    | .Constant (.int j) _ _ => decide (i = j)
    | _ => false)
  | .str i, _, e => (match e with
    | .Constant (.str j) _ _ => decide (i = j)
    | _ => false)
  | .bl i, _, e => (match e with
    | .Constant (.bool j) _ _ => decide (i = j)
    | _ => false)
  | .non, _, e => (match e with
    | .Constant .none _ _ => true
    | _ => false)
  | .bin o _ a b, I, e => (match e with
    | .BinOp l op r _ => decide (op = o) && mE a I l && mE b I r
    | _ => false)
  | .neg a, I, e => (match e with
    | .UnaryOp .USub x _ => mE a I x
    | _ => false)
  | .tst t, I, e => mT t true I e
  | .ifx c a b, I, e => (match e with
    | .IfExp t x y _ => mT c false I t && mE a I x && mE b I y
    | _ => false)
  | .tup es, I, e => (match e with
    | .Tuple xs _ _ => mEs es I xs
    | _ => false)
  | .lst _ es, I, e => (match e with
    | .List xs _ => mEs es I xs
    | _ => false)
  | .dct _ ks vs, I, e => ks.none? && vs.none? && (match e with
    | .Dict [] [] _ => true
    | _ => false)
  | .dcs ks vs, I, e => (match e with
    | .Dict keys values _ => mD vs ks I keys values && decide ks.Nodup && !ks.isEmpty && decide (ks.length ≤ 15)
    | _ => false)
  | .lc _ elt g it ifs own, I, e => (match e with
    | .ListComp x [⟨tg, iter, tests, 0⟩] scope _ => mI it I g.isTup iter && nSet iter && blkC I.N I.sc scope own && ((gSlots g).all fun i => decide (i ∈ own.map (·.2))) && (match tg with | .Tuple _ _ _ => g.isTup | _ => !g.isTup) && mG g (I.blk scope) tg && mTs ifs (I.blk scope) tests && mE elt (I.blk scope) x
    | _ => false)
  | .lc2 _ elt g it ifs own g1 e1 ifs1 own1, I, e => (match e with
    | .ListComp x [⟨tg, iter, tests, 0⟩, ⟨tg1, iter1, tests1, 0⟩] scope _ => mI it I g.isTup iter && nSet iter && blkC I.N I.sc scope own && ((gSlots g).all fun i => decide (i ∈ own.map (·.2))) && (match tg with | .Tuple _ _ _ => g.isTup | _ => !g.isTup) && mG g (I.blk scope) tg && mTs ifs (I.blk scope) tests && mE elt (I.blk scope) x && (mE e1 (I.blk scope) iter1 && nSet iter1 && ((gSlots g1).all fun i => decide (i ∈ own1)) && (own1.all fun i => decide (i ∈ own.map (·.2))) && mG g1 (I.blk scope) tg1 && mTs ifs1 (I.blk scope) tests1)
    | _ => false)
  | .lrange1 _ a, I, e => (match e with
    | .Call (.Name x _) [.Call (.Name y _) [z] [] _] [] _ => decide (x = "list") && glB I x && (decide (y = "range") && glB I y) && mE a I z && nStL [z]
    | _ => false)
  | .nevE, _, _ => true
  | .mkx C f kw a, I, e => (match e with
    | .Call (.Name x _) [y] [] _ => !kw && decide (x = C) && glB I x && decide ((C, f) ∈ W.xt.xc) && nSt y && mE a I y
    | .Call (.Name x _) [] [⟨some g, y, _⟩] _ => kw && decide (x = C) && decide (g = f) && glB I x && decide ((C, f) ∈ W.xt.xc) && mE a I y
    | _ => false)
  | .mkx0 C, I, e => (match e with
    | .Call (.Name x _) [] [] _ => decide (x = C) && glB I x && decide (C ∈ W.xt.x0)
    | _ => false)
  | .reprd a, I, e => W.xt.sm && (match e with
    | .Call (.Name x _) [y] [] _ => decide (x = "repr") && glB I x && mE a I y && nSt y
    | _ => false)
  | .heard T g hd c, I, e => (match e with
    | .Call (.Name x _) [.Lambda params body scope _] [] _ => decide (x = g) && glB I x && decide (T = I.lf) && decide (T ≠ "") && decide (T ∈ W.xt.lams) && LamX.lamSB I.sc scope && noPar params && decide ((g, hd) ∈ W.xt.hds) && mE c ⟨I.N, scope, some emptySc, ""⟩ body
    | _ => false)
  | .xfld a f Cs, I, e => (match e with
    | .Attribute oe name _ => decide (name = f) && nBase oe && mE a I oe && Cs.all fun C => decide ((C, f) ∈ W.xt.xc)
    | _ => false)
  | .dc _ k v g it own, I, e => (match e with
    | .DictComp y x [⟨tg, iter, [], 0⟩] scope _ => mI it I g.isTup iter && nSet iter && blkC I.N I.sc scope own && ((gSlots g).all fun i => decide (i ∈ own.map (·.2))) && (match tg with | .Tuple _ _ _ => g.isTup | _ => !g.isTup) && mG g (I.blk scope) tg && mE k (I.blk scope) y && mE v (I.blk scope) x
    | _ => false)
  | .call f args, I, e => (match e with
    | .Call (.Name x _) xs [] _ => decide (x = f) && glB I x && (W.T (f, none)).isSome && mEs args I xs && nStL xs
    | _ => false)
  | .callk f args ks kws, I, e => (match e with
    | .Call (.Name x _) xs (k1 :: kr) _ => decide (x = f) && glB I x && (W.T (f, none)).isSome && mEs args I xs && nStL xs && decide (kwNames (k1 :: kr) = ks.map some) && decide ((f, ks) ∈ W.kw) && mK kws I (k1 :: kr)
    | _ => false)
  | .make C args, I, e => (match e with
    | .Call (.Name x _) xs [] _ => decide (x = C) && glB I x && (W.T (C, none)).isNone && (W.T (C, some "__init__")).isSome && mEs args I xs && nStL xs
    | _ => false)
  | .meth m o args, I, e => (match e with
    | .Call (.Attribute oe name apos) xs [] pos => decide (name = m) && nBase oe && mE o I oe && mEs args I xs && nStL xs && decide (xs.length < 30) && (apos.endLine == pos.line)
    | _ => false)
  | .fld o f, I, e => (match e with
    | .Attribute oe name _ => decide (name = f) && nBase oe && mE o I oe
    | _ => false)
  | .ix a b, I, e => (match e with
    | .Subscript x i _ => nSl i && mE a I x && mE b I i
    | _ => false)
  | .slc _ a lo hi, I, e => (match e with
    | .Subscript x (.Slice l h none _) _ => mE a I x && mO lo I l && mO hi I h
    | _ => false)
  | .rev _ a, I, e => (match e with
    | .Subscript x (.Slice none none (some (.UnaryOp .USub (.Constant (.int 1) _ _) _)) _) _ => mE a I x
    | _ => false)
  | .fn b _ args, I, e => (match e with
    | .Call (.Name x _) (y :: ys) [] _ => decide (bfName b = some x) && glB I x && mEs args I (y :: ys) && nStL (y :: ys)
    | _ => false)
  | .bm m o args, I, e => (match e with
    | .Call (.Attribute oe name apos) xs [] pos => decide (bmName m = some name) && nBase oe && mE o I oe && mEs args I xs && nStL xs && decide (xs.length < 29) && (apos.endLine == pos.line) && bmArgs m xs
    | _ => false)
  | .frz a, I, e => mE a I e
  | .frzd a, I, e => mE a I e
  | .lenset a, I, e => (match e with
    | .Call (.Name x _) [.Call (.Name y _) [z] [] _] [] _ => decide (x = "len") && decide (y = "set") && glB I x && glB I y && mE a I z && nSt z
    | _ => false)
  | .sortset _ a, I, e => (match e with
    | .Call (.Name x _) [.Call (.Name y _) [z] [] _] [] _ => decide (x = "sorted") && decide (y = "set") && glB I x && glB I y && mE a I z && nSt z
    | _ => false)
  | .nnew, _, e => (match e with
    | .Dict [] [] _ => true
    | _ => false)
  | .nm m o args, I, e => (match e with
    | .Call (.Attribute oe name apos) (y :: ys) [] pos => decide (nmName m = name) && nBase oe && mE o I oe && mEs args I (y :: ys) && nStL (y :: ys) && decide ((y :: ys).length < 29) && (apos.endLine == pos.line)
    | _ => false)
  | .nix a b, I, e => (match e with
    | .Subscript x i _ => nSl i && mE a I x && mE b I i
    | _ => false)
  | .nlen a, I, e => (match e with
    | .Call (.Name x _) [y] [] _ => decide (x = "len") && glB I x && mE a I y && nSt y
    | _ => false)
  | .nlist _ a, I, e => (match e with
    | .Call (.Name x _) [y] [] _ => decide (x = "list") && glB I x && mE a I y && nSt y
    | _ => false)
  | .ndc k v g it own, I, e => (match e with
    | .DictComp y x [⟨tg, iter, [], 0⟩] scope _ => mI it I g.isTup iter && nSet iter && blkC I.N I.sc scope own && ((gSlots g).all fun i => decide (i ∈ own.map (·.2))) && (match tg with | .Tuple _ _ _ => g.isTup | _ => !g.isTup) && mG g (I.blk scope) tg && mE k (I.blk scope) y && mE v (I.blk scope) x
    | _ => false)
def mO : CO → Inf → Option Expr → Bool
  | .no, _, o => o.isNone
  | .yes a, I, o => (match o with
    | some x => mE a I x
    | none => false)
def mEs : CEs → Inf → List Expr → Bool
  | .nil, _, l => l.isEmpty
  | .cons a as, I, l => (match l with
    | x :: xs => nSt x && mE a I x && mEs as I xs
    | [] => false)
  | .star a as, I, l => (match l with
    | .Starred x _ :: xs => mE a I x && mEs as I xs
    | _ => false)
  | .starD a as, I, l => (match l with
    | .Starred x _ :: xs => mE a I x && mEs as I xs
    | _ => false)
def mK : CEs → Inf → List Keyword → Bool
  | .nil, _, l => l.isEmpty
  | .cons a as, I, l => (match l with
    | ⟨_, x, _⟩ :: xs => mE a I x && mK as I xs
    | [] => false)
  | .star _ _, _, _ => false
  | .starD _ _, _, _ => false
def mD : CEs → List Str → Inf → List (Option Expr) → List Expr → Bool
  | .nil, ks, _, l, m => ks.isEmpty && l.isEmpty && m.isEmpty
  | .cons a as, ks, I, l, m => (match ks, l, m with
    | k :: kr, some (.Constant (.str z) _ _) :: lr, v :: mr => decide (z = k) && mE a I v && mD as kr I lr mr
    | _, _, _ => false)
  | .star _ _, _, _, _, _ => false
  | .starD _ _, _, _, _, _ => false
def mT : CT → Bool → Inf → Expr → Bool
  | .val a, v, I, e => mE a I e && (v || plT e)
  | .tru a, v, I, e => !v && mE a I e && plT e
  | .cmp o a b, _, I, e => (match e with
    | .Compare l [op] [r] _ => decide (op = o) && mE a I l && mE b I r && nSet r
    | _ => false)
  | .chain o o' a b c, _, I, e => (match e with
    | .Compare l [op, op'] [r, s] _ => decide (op = o) && decide (op' = o') && mE a I l && mE b I r && mE c I s && nSet s
    | _ => false)
  | .and a b, v, I, e => (match e with
    | .BoolOp .And [x, y] _ => mT a v I x && mT b v I y
    | .BoolOp .And (x :: y :: z :: r) pos => mT a v I x && mT b v I (.BoolOp .And (y :: z :: r) pos)
    | _ => false)
  | .or a b, v, I, e => (match e with
    | .BoolOp .Or [x, y] _ => mT a v I x && mT b v I y
    | .BoolOp .Or (x :: y :: z :: r) pos => mT a v I x && mT b v I (.BoolOp .Or (y :: z :: r) pos)
    | _ => false)
  | .not a, v, I, e => (match e with
    | .UnaryOp .Not x _ => mT a v I x
    | _ => false)
  | .isi a ts, _, I, e => (match e with
    | .Call (.Name f _) [x, t] [] _ => decide (f = "isinstance") && glB I f && mE a I x && nSt x && nSt t && mTy I ts t
    | _ => false)
  | .nin neg a b, _, I, e => (match e with
    | .Compare l [op] [r] _ => decide (op = (if neg then .NotIn else .In)) && mE a I l && mE b I r && nSet r
    | _ => false)
  | .xis a ds tab, _, I, e => (match e with
    | .Call (.Name f _) [x, t] [] _ => decide (f = "isinstance") && glB I f && mE a I x && nSt x && nSt t && mXTs W.xt I ds tab t
    | _ => false)
def mTs : CTs → Inf → List Expr → Bool
  | .nil, _, l => l.isEmpty
  | .cons t ts, I, l => (match ts, l with
    | .nil, [x] => mT t false I x
    | _, _ => false)
def mI : CI → Inf → Bool → Expr → Bool
  | .seq a, I, _, e => mE a I e
  | .range1 a, I, _, e => (match e with
    | .Call (.Name f _) [x] [] _ => decide (f = "range") && glB I f && mE a I x && nSt x
    | _ => false)
  | .range2 a b, I, _, e => (match e with
    | .Call (.Name f _) [x, y] [] _ => decide (f = "range") && glB I f && mE a I x && mE b I y && nSt x && nSt y
    | _ => false)
  | .enum a, I, t, e => t && (match e with
    | .Call (.Name f _) [x] [] _ => decide (f = "enumerate") && glB I f && mE a I x && nSt x
    | _ => false)
  | .zip a b, I, t, e => t && (match e with
    | .Call (.Name f _) [x, y] [] _ => decide (f = "zip") && glB I f && mE a I x && mE b I y && nSt x && nSt y
    | _ => false)
  | _, _, _, _ => false
def mG : CG → Inf → Expr → Bool
  | .name i, I, e => (match e with
    | .Name x _ => stoB I i x
    | _ => false)
  | .tup gs, I, e => (match e with
    | .Tuple es _ _ => mGs gs I es && nStL es
    | _ => false)
  | .lup gs, I, e => (match e with
    | .Tuple es _ _ => mGs gs I es && nStL es
    | _ => false)
  | .sub o i, I, e => (match e with
    | .Subscript x y _ => nSl y && mE o I x && mE i I y
    | _ => false)
  | .nsub o i, I, e => (match e with
    | .Subscript x y _ => nSl y && mE o I x && mE i I y
    | _ => false)
def mGs : CGs → Inf → List Expr → Bool
  | .nil, _, l => l.isEmpty
  | .cons g gs, I, l => (match l with
    | x :: xs => nSt x && mG g I x && mGs gs I xs
    | [] => false)
end
/-- a store of two plain names -/
def parB (I : Inf) (i j : Nat) (x y : Str) (px py : Pos) (a b : Expr) : Bool :=
  decide (I.N[i]? = some x) && decide (I.N[j]? = some y) && decide (i ≠ j) && decide (I.sc.names.lookup x = some .local) && decide (I.sc.names.lookup y = some .local) && decide (x ≠ y) && (px.line == py.line) && nSt a && nSt b && !([a, b].all (foldedForSure 8)) && !([a, b].all (constantsAlone 8))
def swB (I : Inf) (x : Str) (px cp : Pos) (scope : Scope) : Bool := decide (I.sc.names.lookup x = some .local) && (px.line == cp.line) && !(scope.names.any fun (n, k) => n == x && (k == .local || k == .cell))
def cellB (I : Inf) : Expr → Bool
  | .Name x _ => !decide (I.sc.names.lookup x = some .local)
  | _ => false
mutual
def mS : CS → Inf → Stmt → Bool
  | .expr a, I, s => (match s with
    | .Expr e _ => mE W a I e && nComp e
    | _ => false)
  | .asg g a, I, s => (match s with
    | .Assign [tg] e _ => mE W a I e && mG W g I tg && (nComp e || cellB I tg) && (match tg with | .Tuple ts _ _ => nTup e || ts.any (cellB I) | _ => true) && nSt tg
    | _ => false)
  | .setLc i _ elt g it ifs own, I, s => (match s with
    | .Assign [.Name y py] (.ListComp x [⟨tg, iter, tests, 0⟩] scope cp) _ => decide (I.N[i]? = some y) && swB I y py cp scope && mI W it I g.isTup iter && nSet iter && blkC I.N I.sc scope own && ((gSlots g).all fun i => decide (i ∈ own.map (·.2))) && (match tg with | .Tuple _ _ _ => g.isTup | _ => !g.isTup) && mG W g (I.blk scope) tg && mTs W ifs (I.blk scope) tests && mE W elt (I.blk scope) x
    | _ => false)
  | .setLc2 i _ elt g it ifs own g1 e1 ifs1 own1, I, s => (match s with
    | .Assign [.Name y py] (.ListComp x [⟨tg, iter, tests, 0⟩, ⟨tg1, iter1, tests1, 0⟩] scope cp) _ => decide (I.N[i]? = some y) && swB I y py cp scope && mI W it I g.isTup iter && nSet iter && blkC I.N I.sc scope own && ((gSlots g).all fun i => decide (i ∈ own.map (·.2))) && (match tg with | .Tuple _ _ _ => g.isTup | _ => !g.isTup) && mG W g (I.blk scope) tg && mTs W ifs (I.blk scope) tests && mE W elt (I.blk scope) x && (mE W e1 (I.blk scope) iter1 && nSet iter1 && ((gSlots g1).all fun i => decide (i ∈ own1)) && (own1.all fun i => decide (i ∈ own.map (·.2))) && mG W g1 (I.blk scope) tg1 && mTs W ifs1 (I.blk scope) tests1)
    | _ => false)
  | .setf o f a, I, s => (match s with
    | .Assign [.Attribute oe name _] e _ => decide (name = f) && mE W o I oe && mE W a I e
    | _ => false)
  | .par2 i j a b, I, s => (match s with
    | .Assign [.Tuple [.Name x px, .Name y py] _ _] (.Tuple [u, v] _ _) _ => parB I i j x y px py u v && mE W a I u && mE W b I v
    | _ => false)
  | .aug _ _ _, _, _ => false
  | .ret a, I, s => (match s with
    | .Return (some e) _ => mE W a I e
    | _ => false)
  | .retN, _, s => (match s with
    | .Return none _ => true
    | _ => false)
  | .ite c a b, I, s => (match s with
    | .If t u v _ => mT W c false I t && mSs a I u && mSs b I v
    | _ => false)
  | .for_ g it b, I, s => (match s with
    | .For tg iter body [] _ => mI W it I g.isTup iter && nSet iter && (match tg with | .Tuple _ _ _ => g.isTup | _ => !g.isTup) && mG W g I tg && mSs b I body
    | _ => false)
  | .while_ c b, I, s => (match s with
    | .While t body [] _ => mT W c false I t && mSs b I body
    | _ => false)
  | .pass, _, s => (match s with
    | .Pass _ => true
    | _ => false)
  | .brk, _, s => (match s with
    | .Break _ => true
    | _ => false)
  | .cont, _, s => (match s with
    | .Continue _ => true
    | _ => false)
  | .never, _, _ => true
  | .raise C f kw a, I, s => (match s with
    | .Raise (some (.Call (.Name x _) [y] [] _)) none _ => !kw && decide (x = C) && glB I x && decide ((C, f) ∈ W.xt.xc) && nSt y && mE W a I y
    | .Raise (some (.Call (.Name x _) [] [⟨some g, y, _⟩] _)) none _ => kw && decide (x = C) && decide (g = f) && glB I x && decide ((C, f) ∈ W.xt.xc) && mE W a I y
    | _ => false)
  | .try1 all C subs i hot body h, I, s => (match s with
    | .Try b [.ExceptHandler (some (.Name x _)) (some n) [.Return (some e) _] _] [] [] _ => decide (x = C) && glB I x && decide (I.N[i]? = some n) && decide (I.sc.names.lookup n = some .local) && !all.isEmpty && (all.all fun D => decide (((D, C), decide (D ∈ subs)) ∈ W.xt.ex)) && (subs.all fun D => decide (D ∈ all)) && (hot.all fun p => decide (p ∈ W.xt.hot)) && mSs body I b && mH W.xt hot subs i I h e
    | _ => false)
def mSs : CSs → Inf → List Stmt → Bool
  | .nil, _, l => l.isEmpty
  | .cons s ss, I, l => (match l with
    | x :: xs => mS s I x && mSs ss I xs
    | [] => false)
end
end
end RX
set_option Elab.async false
set_option linter.all false
set_option maxRecDepth 100000
set_option maxHeartbeats 4000000
/-! XT6: what must be known of a def that calls what it got within try. -/
namespace RX
open PySem PySem.Spec PyProof.Rows L2 LamX
/-- a clause's wish -/
def clzOf (c : HCl) : Clz := ⟨c.Cn, c.subs, c.on, fun C f x M Q => C ∈ c.subs ∧ wpH [] C f x c.h [] M Q⟩
theorem pick_clz {C f : Str} {x : D} {M : MM} {Q : DV} {σ : DSt} : ∀ l : List HCl, pickC EF0 C f x σ M Q (l.map clzOf) = pickH C f x M Q l
  | [] => rfl
  | c :: r => by
    show Bif (decide (C ∈ c.subs)) (C ∈ c.subs ∧ wpH [] C f x c.h [] M Q) (pickC EF0 C f x σ M Q (r.map clzOf)) = Bif (decide (C ∈ c.subs)) (wpH [] C f x c.h [] M Q) (pickH C f x M Q r)
    rw [pick_clz r]
    by_cases h : C ∈ c.subs
    · rw [show (C ∈ c.subs ∧ wpH [] C f x c.h [] M Q) = wpH [] C f x c.h [] M Q from propext ⟨fun z => z.2, fun z => ⟨h, z⟩⟩]
    · rw [decide_eq_false h]
      exact propext ⟨fun z => ⟨fun e => (nomatch e), z.2⟩, fun z => ⟨fun e => (nomatch e), z.2⟩⟩
theorem hdE_clz {hd : HD} {Q : DV} : hdE hd.all (hd.cl.map clzOf) Q = hdE2 hd Q := by
  funext C ks vs σ1 M1
  unfold hdE hdE2
  refine congrArg _ (congrArg _ (funext fun f => congrArg _ (funext fun x => ?_)))
  rw [pick_clz]
structure HdFact (P : Program) (w : World) (K : PySem.W.Frag) (mg : Str → Option Value) (base : Heap) (k : Nat) (x : Str) (hd : HD) : Prop where
  ex : ∃ (g : Addr) (pg : Arguments) (bd tl : List Stmt) (h₀ : ExceptHandler) (hds : List ExceptHandler) (sg : Scope) (dV kV doc pm cdv ct oc : Value) (an od : Option Addr) (osl : Array (Option Value)) (tp : Pos), mg x = some (.ref g) ∧ PySem.W.keepIn K (.ref g) = true ∧
    K.lookup g = some ⟨oc, od, .func (PySem.W.fnOf x x pg (.Try bd (h₀ :: hds) [] [] tp :: tl) sg dV kV doc pm an cdv ct), osl⟩ ∧ PySem.W.codeIn K cdv x = true ∧ L2.Binds K (PySem.W.fnOf x x pg (.Try bd (h₀ :: hds) [] [] tp :: tl) sg dV kV doc pm an cdv ct) [hd.a] [] ∧
    FnScope hd.N [hd.a] sg ∧ hd.N[0]? = some hd.a ∧ Vis sg hd.a ∧ HdSh hd.a hd.fm bd tl ∧ (hd.a == ("__debug__" : Str)) = false ∧ (hd.a == ("__classdict__" : Str)) = false ∧
    ∀ (A : Around) (outer : List Env) (s : Shared) (H : Hp), Room k (A.deeper (envOfC x sg s.heap.objs.size g cdv)) → A.guards = some [] → ClsOk (cxOf C8.CX0 P w K mg base hd.N x sg g cdv A outer s H C8.E0).nox hd.all (h₀ :: hds) (hd.cl.map clzOf)
  al : ∀ C ∈ hd.all, XbF K (He.ga K C)
theorem HdFact.mono {P : Program} {w : World} {K : PySem.W.Frag} {mg : Str → Option Value} {base : Heap} {j k : Nat} {x : Str} {hd : HD} (h : HdFact P w K mg base j x hd) (e : j ≤ k) : HdFact P w K mg base k x hd := by
  obtain ⟨⟨g, pg, bd, tl, h₀, hds, sg, dV, kV, doc, pm, cdv, ct, oc, an, od, osl, tp, a1, a2, a3, a4, a5, a6, a7, a8, a9, b1, b2, b3⟩, al⟩ := h
  exact ⟨⟨g, pg, bd, tl, h₀, hds, sg, dV, kV, doc, pm, cdv, ct, oc, an, od, osl, tp, a1, a2, a3, a4, a5, a6, a7, a8, a9, b1, b2, fun A outer s H r hg => b3 A outer s H (r.mono e) hg⟩, al⟩
theorem noPar_of {p : Arguments} (h : noPar p = true) : p = { posonlyargs := [], args := [], vararg := none, kwonlyargs := [], kw_defaults := [], kwarg := none, defaults := [] } := by
  obtain ⟨a, b, c, d, e, f, g⟩ := p
  unfold noPar at h
  simp only [Bool.and_eq_true, List.isEmpty_iff, Option.isNone_iff_eq_none] at h
  obtain ⟨⟨⟨⟨⟨⟨h1, h2⟩, h3⟩, h4⟩, h5⟩, h6⟩, h7⟩ := h
  subst h1 h2 h3 h4 h5 h6 h7
  rfl
theorem noPar_def {p : Arguments} (h : noPar p = true) (env : Env) : defaultsOf p env = ([], []) := by
  rw [noPar_of h]
  rfl
theorem noPar_bind {params : Arguments} {body : Expr} {scope : Scope} (h : noPar params = true) (q : Str) (cl : List (Str × Addr)) (pm cv ctv : Value) : bindArgs (PySem.W.kla_fn "<lambda>" q params body scope cl pm cv ctv) ⟨[], []⟩ = pure [] := by
  rw [noPar_of h]
  rfl
end RX
set_option Elab.async false
set_option linter.all false
set_option maxRecDepth 100000
set_option maxHeartbeats 4000000
namespace RX
open PySem PySem.Spec PyProof.Rows L2
section
variable {X : Cx} {B : Bs} {fz : Bool} {a : Expr} {ta : DE} {p p2 q pos : Pos}
theorem strs_of {K : PySem.W.Frag} {H : Hp} {zs : List Str} {vs : List V} (r : RepL K H (zs.map D.str) vs) : vs = zs.map V.str := repL_map (g := V.str) (fun b v h => rep_str h) r
theorem set_len {es : Array (Int × Value)} {L : List Str} (p : (es.toList.map sgo).Perm L) : es.size = L.length := by
  have := p.length_eq
  rw [List.length_map, Array.length_toList] at this
  exact this
theorem le_lenset (hc : X.calm = true) (hg : Gl X "len") (hm : X.mg "len" = none) (hg2 : Gl X "set") (hm2 : X.mg "set" = none) (ha : PE X a (LE X.K B ta)) (na : starEach [a] X.env = (false, eval a X.env) :: starEach [] X.env) :
    PE X (.Call (.Name "len" p) [.Call (.Name "set" p2) [a] [] q] [] pos) (LE X.K B fun σ M Q => ta σ M fun x M1 => rdLenSet x M1 Q) := by
  refine pe_of fun pins s σ H σd M Qd I at' ht => ?_
  refine Call_ (ld_blt I hg hm boot_len (PyProof.Rows.callWith_builtin1 (PyProof.Rows.args_cons ?_ rfl) rfl rfl))
  refine Call_ (ld_blt I hg2 hm2 boot_set ?_)
  refine PyProof.Rows.callWith_type1 (PyProof.Rows.args_cons (thn (PE.at ha I at' ht) fun v s1 ⟨d, M1, x, H1, I1, r1, f1, rr, m1, zs, e, hz, q1⟩ => PyProof.Rows.args_nil ?_) na) na rfl
  obtain ⟨l, vs, rfl, hl, rl⟩ := lsOf_rep e rr m1
  cases strs_of rl
  cases r1
  obtain ⟨its, rv, pl, _⟩ := I1.list hl.sql
  refine ss_call zs (I1.ok.hd hc) pl.isList (by simpa using rv) (by unfold scanBound; omega) fun h' tk R k => ?_
  refine PyProof.Rows.args_nil ?_
  obtain ⟨o, es, ep, t, ho, hx, hd, _, p1, _, tb⟩ := R
  have I2 : Inv X pins σ H1 { s1 with heap := h', toks := tk } := I1.kept fun b o e => k b o e
  have hsz := set_len p1
  have hdl := dedup_len zs
  refine call_len_set ho hx hd tb.fit (by omega) ?_
  rw [← hsz] at q1
  exact EPD.pre f1 (fin_ (v := .int _) (I2.tok _) ⟨_, rfl⟩ m1 (mk_int _) q1)
theorem set_sorted {pins : List (Addr × Obj)} {σ : SV} {H1 : Hp} {s2 : Shared} {M1 : MM} {Qd : DV} {zs : List Str} {p : Addr} (hc : X.calm = true) (I2 : Inv X pins σ H1 s2) (m1 : RepM X.K M1 H1) (R : SsR X.prog X.w s2.heap p (dedup zs)) (hz : zs.length < 64)
    (q1 : ∀ ys : List Str, ys.Perm (dedup zs) → sortedS ys = true → newL fz (ys.map D.str) M1 Qd) : wpAny (model X.prog X.w) X.A (call (.builtin "sorted") [.ref p]) (EPD X pins σ M1 H1 Qd) X.xe s2 := by
  have hdl := dedup_len zs
  refine ss_sorted R (I2.ok.hd hc) (by omega) fun s' p out c ys k2 g o hp hg2 hs pm so => ?_
  have hn : H1 p = none := I2.hok.fresh hp
  have hl2 := pm.length_eq
  have hv : Vals (ys.map V.str) out.toList := by
    clear pm so hl2 q1
    generalize out.toList = us at hs
    induction hs with
    | nil => exact .nil
    | cons z t _ ih => exact .cons ⟨t, rfl⟩ ih
  have J : Inv X pins σ (upd H1 p (.lst (ys.map V.str))) { s2 with heap := s'.heap, gens := s'.gens, drawn := s'.drawn, toks := s'.toks } :=
    I2.call (ch := []) (Un.laid k2 hp hn) (I2.hok.laid k2 hp ⟨by rw [List.length_map, sizeLine_eq]; omega, out.toList, c, hv, hg2⟩) (by rw [g]; exact I2.bare) (fun _ z => nomatch z)
  have e2 : s' = { s2 with heap := s'.heap, gens := s'.gens, drawn := s'.drawn, toks := s'.toks } := by
    cases s'; cases s2; cases o; rfl
  rw [e2]
  have rs : RepL X.K H1 (ys.map D.str) (ys.map V.str) := by
    clear hv J pm so hl2 hs
    induction ys with
    | nil => exact .nil
    | cons y ys ih => exact .cons (mk_str y) ih
  exact fin_newL J hn m1 rs (q1 ys pm so)
theorem le_sortset (hc : X.calm = true) (hg : Gl X "sorted") (hm : X.mg "sorted" = none) (hg2 : Gl X "set") (hm2 : X.mg "set" = none) (ha : PE X a (LE X.K B ta)) (na : starEach [a] X.env = (false, eval a X.env) :: starEach [] X.env) :
    PE X (.Call (.Name "sorted" p) [.Call (.Name "set" p2) [a] [] q] [] pos) (LE X.K B fun σ M Q => ta σ M fun x M1 => rdSortSet fz x M1 Q) := by
  refine pe_of fun pins s σ H σd M Qd I at' ht => ?_
  refine Call_ (ld_blt I hg hm boot_sorted (PyProof.Rows.callWith_builtin1 (PyProof.Rows.args_cons ?_ rfl) rfl rfl))
  refine Call_ (ld_blt I hg2 hm2 boot_set ?_)
  refine PyProof.Rows.callWith_type1 (PyProof.Rows.args_cons (thn (PE.at ha I at' ht) fun v s1 ⟨d, M1, x, H1, I1, r1, f1, rr, m1, zs, e, hz, q1⟩ => PyProof.Rows.args_nil ?_) na) na rfl
  obtain ⟨l, vs, rfl, hl, rl⟩ := lsOf_rep e rr m1
  cases strs_of rl
  cases r1
  obtain ⟨its, rv, pl, _⟩ := I1.list hl.sql
  refine ss_call zs (I1.ok.hd hc) pl.isList (by simpa using rv) (by unfold scanBound; omega) fun h' tk R k => ?_
  refine PyProof.Rows.args_nil ?_
  have I2 : Inv X pins σ H1 { s1 with heap := h', toks := tk } := I1.kept fun b o e => k b o e
  exact wpAny_mono (set_sorted (fz := fz) (Qd := Qd) hc I2 m1 R hz q1) (fun _ _ h => EPD.pre f1 h) (fun _ _ h => h)
end
end RX
set_option Elab.async false
set_option linter.all false
set_option maxRecDepth 100000
set_option maxHeartbeats 4000000
/-! RX11c: dict of pairs, dict of a dict. -/
namespace RX
open PySem PySem.Spec PyProof.Rows L2
section
variable {X : Cx}
theorem prs_of {pins : List (Addr × Obj)} {σ : SV} {H : Hp} {s : Shared} (I : Inv X pins σ H s) : ∀ {l : List (Key × D)} {xs : List D} {vs : List V}, prD xs = some l → RepL X.K H xs vs →
    ∃ (as : List Addr) (us : List Value) (prs : List (Key × Value)) (ws : List V), vs = as.map V.ref ∧ as.length = l.length ∧ us.length = l.length ∧ ws.length = l.length ∧ KV ((l.map (·.1)).zip ws) prs ∧ RepL X.K H (l.map (·.2)) ws ∧
      ∀ (j : Nat) (q : Key × Value), prs[j]? = some q → ∃ (b : Addr) (u : Value), as[j]? = some b ∧ us[j]? = some u ∧ s.heap.IsTuple b #[u, q.2] ∧ (mixKind X.prog X.w).is q.1 u = true
  | l, [], vs, e, r => by
    have := r.nil_inv
    subst this
    cases e
    exact ⟨[], [], [], [], rfl, rfl, rfl, rfl, .nil, .nil, fun j q e => by simp at e⟩
  | l, x :: xs, vs, e, r => by
    obtain ⟨v, vs', ev, r1, r2⟩ := r.cons_inv
    subst ev
    unfold prD at e
    split at e
    · rename_i he
      cases he
    · rename_i k v' xs' he
      injection he with e1 e2
      subst e1 e2
      split at e
      · rename_i key l' hk hl
        cases e
        obtain ⟨as, us, prs, ws, ea, h1, h2, h3, kv, rl, hp⟩ := prs_of I hl r2
        obtain ⟨a, ts, ev, ht, rt⟩ := rep_tup r1
        subst ev
        obtain ⟨x1, ts1, et, q1, rt1⟩ := rt.cons_inv
        subst et
        obtain ⟨x2, ts2, et, q2, rt2⟩ := rt1.cons_inv
        subst et
        have := rt2.nil_inv
        subst this
        obtain ⟨its, rv, htu, _⟩ := I.tuple ht
        obtain ⟨u, y, ei, ru, ry⟩ := vals2 rv
        subst ei
        subst ea
        have ek := keyOf_rep hk q1
        subst ek
        refine ⟨a :: as, u :: us, (key, y) :: prs, x2 :: ws, rfl, by simp [h1], by simp [h2], by simp [h3], .cons ⟨rfl, ry⟩ kv, .cons q2 rl, fun j q e => ?_⟩
        cases j with
        | zero =>
          have e' : (key, y) = q := Option.some.inj e
          subst e'
          exact ⟨a, u, rfl, rfl, isTup_is htu, kV_is ru⟩
        | succ j =>
          obtain ⟨b, u', g1, g2, g3, g4⟩ := hp j q (by simpa using e)
          exact ⟨b, u', by simpa using g1, by simpa using g2, g3, g4⟩
      · cases e
    · cases e
theorem mergeD_zip {K : PySem.W.Frag} {H : Hp} : ∀ {l : List (Key × D)} {ws : List V} {ks : List Key} {ds : List D} {vs : List V}, ws.length = l.length → RepL K H (l.map (·.2)) ws → ks.length = vs.length → RepL K H ds vs →
    ∃ us, mergeK (ks.zip vs) ((l.map (·.1)).zip ws) = (mergeD ks ds l).1.zip us ∧ (mergeD ks ds l).1.length = us.length ∧ RepL K H (mergeD ks ds l).2 us
  | [], ws, ks, ds, vs, e, r, hl, rl => by
    refine ⟨vs, ?_, hl, rl⟩
    simp [mergeK, mergeD]
  | kv :: l, ws, ks, ds, vs, e, r, hl, rl => by
    cases ws with
    | nil => simp at e
    | cons w ws =>
      obtain ⟨v', ws', ev, r1, r2⟩ := RepL.cons_inv r
      cases ev
      obtain ⟨us, e1, e2, e3⟩ := putK_zip (k := kv.1) r1 hl rl
      obtain ⟨us2, g1, g2, g3⟩ := mergeD_zip (l := l) (by simpa using e) r2 e2 e3
      refine ⟨us2, ?_, g2, g3⟩
      show mergeK (putK (ks.zip vs) kv.1 w) ((l.map (·.1)).zip ws) = (mergeD (putKD ks ds kv.1 kv.2).1 (putKD ks ds kv.1 kv.2).2 l).1.zip us2
      rw [e1]
      exact g1
theorem pairsSeq {pins : List (Addr × Obj)} {σ : SV} {H : Hp} {s : Shared} {as : List Addr} {us : List Value} {prs : List (Key × Value)} {n : Nat} (h1 : as.length = n) (h2 : us.length = n) (h3 : prs.length = n)
    (hp : ∀ (j : Nat) (q : Key × Value), prs[j]? = some q → ∃ (b : Addr) (u : Value), as[j]? = some b ∧ us[j]? = some u ∧ s.heap.IsTuple b #[u, q.2] ∧ (mixKind X.prog X.w).is q.1 u = true) :
    PairItems s.heap (as.map Value.ref).toArray (fun j => as.getD j sysModules) (us.zip (prs.map (·.2))) ∧ PairsHave (mixKind X.prog X.w) (us.zip (prs.map (·.2))).length (PairRel (us.zip (prs.map (·.2)))) prs := by
  have hz : (us.zip (prs.map (·.2))).length = n := by simp [h2, h3]
  have at' : ∀ (j : Nat) (k v : Value), (us.zip (prs.map (·.2)))[j]? = some (k, v) → ∃ q, prs[j]? = some q ∧ us[j]? = some k ∧ q.2 = v := fun j k v e => by
    rw [List.getElem?_zip_eq_some] at e
    obtain ⟨g1, g2⟩ := e
    rw [List.getElem?_map] at g2
    obtain ⟨q, g3, g4⟩ := Option.map_eq_some_iff.mp g2
    exact ⟨q, g3, g1, g4⟩
  refine ⟨⟨by simp [h1, hz], fun j k v e => ?_⟩, by rw [hz, h3], fun i key v e => ?_⟩
  · obtain ⟨q, g1, g2, g3⟩ := at' j k v e
    obtain ⟨b, u, c1, c2, c3, c4⟩ := hp j q g1
    rw [g2] at c2
    cases c2
    subst g3
    refine ⟨by simp [c1], .inl ?_⟩
    show s.heap.IsTuple (as.getD j sysModules) _
    rw [List.getD_eq_getElem?_getD, c1]
    exact c3
  · obtain ⟨q, g1, g2, g3⟩ := at' i key v e
    obtain ⟨b, u, c1, c2, c3, c4⟩ := hp i q g1
    rw [g2] at c2
    cases c2
    subst g3
    exact ⟨q.1, g1, c4⟩
theorem c_dict (hc : X.calm = true) {fz : Bool} : CallD X (.type "dict") (fun ds M Q => match ds with | [d] => rdDict fz d M Q | _ => False) := by
  refine d1 (rd := fun d M Q => rdDict fz d M Q) ?_
  intro pins s σ H x u d M Qd I rx r m q
  have pairs : (∃ xs l, sqOf M d = some xs ∧ prD xs = some l ∧ newD fz (mergeD [] [] l).1 (mergeD [] [] l).2 M Qd) → wpAny (model X.prog X.w) X.A (call (.type "dict") [u]) (EPD X pins σ M H Qd) X.xe s := by
    rintro ⟨xs, l, e, hl, q⟩
    have key : ∃ (a : Addr) (vs : List V), x = .ref a ∧ RepL X.K H xs vs ∧ ∃ its : List Value, Vals vs its ∧ vs.length ≤ sizeLine ∧ (PlainSeq "list" s.heap a its.toArray ∨ PlainSeq "tuple" s.heap a its.toArray) := by
      unfold sqOf at e
      split at e
      · cases e
        obtain ⟨a, vs, e1, ht, r2⟩ := rep_tupS r
        refine ⟨a, vs, e1, r2, ?_⟩
        rcases ht with ⟨o, ho, hd⟩ | ⟨o, its, n, hk, hcl, hd, hdat, hz, rv⟩
        · obtain ⟨h1, z, its, rv, o', h2, h3, n, h4⟩ := I.hok a _ ho
          rw [h1] at h2
          cases h2
          exact ⟨its, rv, z, .inr ⟨o, n, h1, h3, hd, h4⟩⟩
        · exact ⟨its.toList, rv, by rw [rv.length, Array.length_toList]; exact hz, .inr ⟨o, n, I.kIn a o hk, hcl, hd, by simpa using hdat⟩⟩
      · obtain ⟨a, vs, e1, h, r2⟩ := lsOf_rep e r m
        obtain ⟨its, rv, ⟨o, n, ho, hcl, hd, hdat⟩, hz⟩ := I.list h.sql
        exact ⟨a, vs, e1, r2, its, rv, hz, .inl ⟨o, n, ho, hcl, hd, hdat⟩⟩
    obtain ⟨a, vs, ex, r2, its, rv, hz, ps⟩ := key
    subst ex
    cases rx
    obtain ⟨as, us, prs, ws, ea, h1, h2, h3, kv, rl, hp⟩ := prs_of I hl r2
    subst ea
    have ei := refs_at rv
    subst ei
    have hlen : prs.length = l.length := by
      have := kv.length
      rw [List.length_zip, List.length_map, h3, Nat.min_self] at this
      exact this.symm
    obtain ⟨pi, ph⟩ := pairsSeq (X := X) (pins := pins) (σ := σ) (H := H) (s := s) h1 h2 hlen hp
    have hz2 : (us.zip (prs.map (·.2))).length ≤ sizeLine := by
      rw [List.length_map, h1] at hz
      simp only [List.length_zip, List.length_map, h2, hlen, Nat.min_self]
      exact hz
    have fin : ∀ (h' : Heap) (tk : Nat), h'.DictOf (mixKind X.prog X.w) s.heap.objs.size (merged [] prs) → (∀ b o, b ∉ ([] : List Addr) → s.heap.get? b = some o → h'.get? b = some o) → EPD X pins σ M H Qd (.ref s.heap.objs.size) { s with heap := h', toks := tk } := fun h' tk hd' k => by
      obtain ⟨ys, e1, e2, e3⟩ := mergeD_zip (K := X.K) (H := H) (ks := []) (ds := []) (vs := []) h3 rl rfl .nil
      have hm : (s.heap.objs.size == sysModules) = false := beq_eq_false_iff_ne.mpr (Nat.ne_of_gt I.big)
      have hn : H s.heap.objs.size = none := I.hok.fresh (Nat.le_refl _)
      have hlen2 : (mergeK [] ((l.map (·.1)).zip ws)).length ≤ sizeLine := by
        refine Nat.le_trans (length_mergeK _ []) ?_
        simp only [List.length_nil, List.length_zip, List.length_map, h3, Nat.min_self, Nat.zero_add]
        rw [List.length_map, h1] at hz
        exact hz
      have e1 : mergeK [] ((l.map (·.1)).zip ws) = (mergeD [] [] l).1.zip ys := e1
      have J : Inv X pins σ (upd H s.heap.objs.size (.dK ((mergeD [] [] l).1.zip ys))) { s with heap := h', toks := tk } := I.laid (t' := tk) (fun b o e => k b o (by simp) e) (Nat.le_refl _)
        (show ObjOk X.prog X.w _ _ _ (.dK ((mergeD [] [] l).1.zip ys)) from ⟨by rw [← e1]; exact hlen2, hm, merged [] prs, by rw [← e1]; exact KV.merge kv .nil, hd'⟩)
      exact fin_newD J hn m e2 e3 q
    rcases ps with ps | ps
    · exact PySem.call_dict_pairs (PairArg.list (prog := X.prog) (w := X.w) a _ (fun j => as.getD j sysModules) _) (I.ok.hd hc) ⟨ps, pi⟩ ph hz2 fin
    · exact PySem.call_dict_pairs (PairArg.tuple (prog := X.prog) (w := X.w) a _ (fun j => as.getD j sysModules) _) (I.ok.hd hc) ⟨ps, pi⟩ ph hz2 fin
  unfold rdDict at q
  split at q
  · obtain ⟨a, o, vs, ex, h, hl, r2⟩ := rep_dct r
    subst ex
    refine thn (call_dictD pins s σ H _ _ (fun v H' => ∃ p, v = .ref p ∧ H p = none ∧ H' = upd H p _) I (v1 rx) ⟨a, _, rfl, .inr ⟨o, h⟩, fun p hp => ⟨p, rfl, hp, rfl⟩⟩) fun u s' e => ?_
    obtain ⟨v, H', J, rv, p, rfl, hp, rfl⟩ := e
    cases rv
    exact fin_newD J hp m hl r2 q
  · rename_i a
    rcases q with ⟨ks, ds, e, q⟩ | q
    · cases rep_ref r
      obtain ⟨vs, h, hl, r2⟩ := m _ _ e
      refine thn (call_dictD pins s σ H _ _ (fun v H' => ∃ p, v = .ref p ∧ H p = none ∧ H' = upd H p _) I (v1 rx) ⟨a, _, rfl, .inl h, fun p hp => ⟨p, rfl, hp, rfl⟩⟩) fun u s' e => ?_
      obtain ⟨v, H', J, rv, p, rfl, hp, rfl⟩ := e
      cases rv
      exact fin_newD J hp m hl r2 q
    · exact pairs q
  · exact pairs q
end
end RX
set_option Elab.async false
set_option linter.all false
set_option maxRecDepth 100000
set_option maxHeartbeats 4000000
/-! RX12: what the checker takes is sound. -/
namespace RX
open PySem PySem.Spec PyProof.Rows L2

def bNames : List Str := ["len", "int", "str", "tuple", "list", "abs", "all", "any", "sum", "repr", "min", "max", "divmod", "dict", "range", "enumerate", "zip", "isinstance", "bool", "set", "sorted", "super"]
def gamW (W : Wd) (p q : FId → CallT) : Gam := ⟨fun x => match W.T (x, none) with | some c => c.ps | none => (match W.T (x, some "__init__") with | some c => c.ps | none => []), fun C m => (W.T (C, some m)).isSome, fun x => p (x, none), fun C m => p (C, some m), fun C => q (C, some "__init__"), W.gl, W.fl, W.wd⟩
def xtM (K : PySem.W.Frag) (mg : Str → Option Value) : XT → Prop
  | .own D => mg D = some (.ref (He.ga K D))
  | .bt n => mg (n : Str) = none
structure XOk (P : Program) (w : World) (K : PySem.W.Frag) (mg : Str → Option Value) (base : Heap) (x : Xt) (k : Nat) : Prop where
  xc : ∀ C f, (C, f) ∈ x.xc → XcAt P K C f ∧ mg C = some (.ref (He.ga K C))
  x0 : ∀ C ∈ x.x0, PySem.W.excIn K (He.ga K C) He.veBase "ValueError.__new__" = true ∧ PySem.W.keepIn K (.ref (He.ga K C)) = true ∧ mg C = some (.ref (He.ga K C))
  is : ∀ C d b, ((C, d), b) ∈ x.is → XbF K (He.ga K C) ∧ PySem.W.kitOne K (.ref (He.ga K C)) (xtV K d) = some b ∧ xtM K mg d
  ex : ∀ C D b, ((C, D), b) ∈ x.ex → XbF K (He.ga K C) ∧ PySem.W.exmOne K (.ref (He.ga K C)) (.ref (He.ga K D)) = some b ∧ mg D = some (.ref (He.ga K D))
  sm : x.sm = true → smB K = true
  hot : ∀ g tab, (g, tab) ∈ x.hot → ∃ fa fd j, j ≤ k ∧ mg g = some (.ref fa) ∧ PySem.W.keepIn K (.ref fa) = true ∧ Binds K fd ["e"] [] ∧ FnX P w K mg base j fa fd tab
  hd : ∀ g hd, (g, hd) ∈ x.hds → HdFact P w K mg base k g hd
  tb : ∀ T ∈ x.lams, LamX.TabB base mg (codA K T) (tabA K T)
structure WOk (P : Program) (w : World) (K : PySem.W.Frag) (mg : Str → Option Value) (base : Heap) (W : Wd) (p q : FId → CallT) (k : Nat) : Prop where
  fn : ∀ f c, W.T (f, none) = some c → ∃ fa fd, mg f = some (.ref fa) ∧ PySem.W.keepIn K (.ref fa) = true ∧ Binds K fd c.ps [] ∧ (∀ ks, (f, ks) ∈ W.kw → KwB K fd c.ps ks) ∧ FnG P w K mg base k fa fd c.ps (p (f, none))
  meth : ∀ C m c, W.T (C, some m) = some c → ∃ fa fd, Cls K (He.ga K C) ∧ Meth K (He.ga K C) m fa ∧ Binds K fd c.ps [] ∧ FnG P w K mg base k fa fd c.ps (p (C, some m))
  init : ∀ C c, W.T (C, some "__init__") = some c → ∃ j fa fd, j + 1 ≤ k ∧ mg C = some (.ref (He.ga K C)) ∧ Mk K (He.ga K C) fa ∧ Binds K fd c.ps [] ∧ FnG P w K mg base j fa fd c.ps (q (C, some "__init__"))
  glob : ∀ x d, W.gl x = some d → ∃ u v, mg x = some u ∧ RelV v u ∧ ∀ H, Rep K H d v
  fld : ∀ C f, W.fl C f = true → Cls K (He.ga K C) ∧ NoAttr K (He.ga K C) f
  bn : ∀ x ∈ bNames, mg x = none
  xt : XOk P w K mg base W.xt k
structure Okk (X : Cx) (I : Inf) (k : Nat) : Prop where
  calm : X.calm = true
  gd : X.A.guards = some []
  room : Room k X.A
  N : X.N = I.N
  nd : I.N.Nodup
  sc : X.env.scope = I.sc
  fn : ∀ x, (match I.fsc with | none => true | some s => decide (s.names.lookup x = some .cell)) = true → X.fn x = true
  own : PassesOwn (model X.prog X.w) X.A X.env X.xe
theorem Okk.blk {X : Cx} {I : Inf} {k : Nat} (O : Okk X I k) (scope : Scope) (s : Shared) (H : Hp) (C : Addr) (cl : List (Str × Addr)) (fp : List Addr) : Okk (X.blk s H scope (compEnvC scope cl C X.env) fp) (I.blk scope) k where
  calm := O.calm
  gd := O.gd
  room := O.room
  N := O.N
  nd := O.nd
  sc := by
    show relS scope X.env.scope = relS scope I.sc
    rw [O.sc]
  fn := fun x h => by
    show (scope.names.lookup x == some .cell) = true
    have h' : decide (scope.names.lookup x = some .cell) = true := h
    rw [beq_iff_eq]
    exact of_decide_eq_true h'
  own := PassesOwn.never
section
variable {X : Cx} {I : Inf} {k : Nat}
theorem notBad {x : Str} (h : (!(badNames.contains x)) = true) : (x == ("__debug__" : Str)) = false ∧ x ≠ "__name__" ∧ (x == ("__classdict__" : Str)) = false := by
  have h' : x ∉ badNames := by simpa using h
  simp only [badNames, List.mem_cons, List.not_mem_nil, or_false, not_or] at h'
  exact ⟨beq_eq_false_iff_ne.mpr h'.1, h'.2.1, beq_eq_false_iff_ne.mpr h'.2.2⟩
theorem gl_of {x : Str} (O : Okk X I k) (h : glB I x = true) : Gl X x ∧ (x == ("__debug__" : Str)) = false ∧ x ≠ "__name__" := by
  unfold glB at h
  rw [Bool.and_eq_true] at h
  obtain ⟨h1, h2, _⟩ := notBad h.2
  refine ⟨?_, h1, h2⟩
  show X.env.scope.names.lookup x = _
  rw [O.sc]
  exact of_decide_eq_true h.1
theorem vis_of {i : Nat} {x : Str} (O : Okk X I k) (h : visB I i x = true) : X.N[i]? = some x ∧ Vis X.env.scope x ∧ (x == ("__debug__" : Str)) = false ∧ (x == ("__classdict__" : Str)) = false := by
  unfold visB at h
  rw [Bool.and_eq_true, Bool.and_eq_true] at h
  obtain ⟨h1, _, h2⟩ := notBad h.2
  refine ⟨by rw [O.N]; exact of_decide_eq_true h.1.1, ?_, h1, h2⟩
  unfold Vis
  rw [O.sc]
  have h3 := h.1.2
  split at h3
  · exact .inl (by assumption)
  · exact .inr (.inl (by assumption))
  · exact .inr (.inr (by assumption))
  · cases h3
theorem sto_of {i : Nat} {x : Str} (O : Okk X I k) (h : stoB I i x = true) : X.N[i]? = some x ∧ L2.Loc X.env.scope x ∧ (X.fn x = true ∨ X.env.scope.names.lookup x = some .local) := by
  unfold stoB at h
  rw [Bool.and_eq_true] at h
  refine ⟨by rw [O.N]; exact of_decide_eq_true h.1, ?_⟩
  unfold L2.Loc
  rw [O.sc]
  have h3 := h.2
  split at h3
  · exact ⟨.inl (by assumption), .inr (by assumption)⟩
  · exact ⟨.inr (by assumption), .inl (O.fn x h3)⟩
  · cases h3
end
theorem cd_imp {X : Cx} {f : Value} {rd rd' : RDF} (h : CallD X f rd) (i : ∀ ds M Q, rd' ds M Q → rd ds M Q) : CallD X f rd' := fun pins s σ H xs us ds M Qd I rv rl m q => h pins s σ H xs us ds M Qd I rv rl m (i _ _ _ q)
inductive BfV : BF → Value → Prop where
  | b {b : BF} {id : String} (n : bfName b = some (Str.ofString id)) (h : bootBuiltins (Str.ofString id) = some (.builtin id)) : BfV b (.builtin id)
  | t {b : BF} {T : String} (n : bfName b = some (Str.ofString T)) (h : bootBuiltins (Str.ofString T) = some (.type T)) : BfV b (.type T)
theorem bf_call {X : Cx} {k : Nat} (hc : X.calm = true) (hgd : X.A.guards = some []) (hr : Room k X.A) (b : BF) (fz : Bool) (n : Str) (hn : bfName b = some n) : ∃ v, BfV b v ∧ n ∈ bNames ∧ CallD X v (rdF b fz) := by
  have hu := hr.units
  have hu2 := hr.un
  cases b with
  | len => cases hn; exact ⟨_, .b rfl boot_len, by decide, cd_imp c_len fun ds M Q q => by match ds, q with | [d], q => exact q | [], q => exact q | _ :: _ :: _, q => exact q⟩
  | int => cases hn; exact ⟨_, .t rfl PyProof.Rows.boot_int, by decide, cd_imp c_int fun ds M Q q => by match ds, q with | [d], q => exact q | [], q => exact q | _ :: _ :: _, q => exact q⟩
  | str => cases hn; exact ⟨_, .t rfl PyProof.Rows.boot_str, by decide, cd_imp c_str fun ds M Q q => by match ds, q with | [d], q => exact q | [], q => exact q | _ :: _ :: _, q => exact q⟩
  | tuple => cases hn; exact ⟨_, .t rfl PyProof.Rows.boot_tuple, by decide, cd_imp c_tuple fun ds M Q q => by match ds, q with | [d], q => exact q | [], q => exact q | _ :: _ :: _, q => exact q⟩
  | list => cases hn; exact ⟨_, .t rfl PyProof.Rows.boot_list, by decide, cd_imp (c_list (fz := fz)) fun ds M Q q => by match ds, q with | [d], q => exact q | [], q => exact q | _ :: _ :: _, q => exact q⟩
  | abs => cases hn; exact ⟨_, .b rfl boot_abs, by decide, cd_imp c_abs fun ds M Q q => by match ds, q with | [d], q => exact q | [], q => exact q | _ :: _ :: _, q => exact q⟩
  | all => cases hn; exact ⟨_, .b rfl boot_all, by decide, cd_imp (c_all hc) fun ds M Q q => by match ds, q with | [d], q => exact q | [], q => exact q | _ :: _ :: _, q => exact q⟩
  | any => cases hn; exact ⟨_, .b rfl boot_any, by decide, cd_imp (c_any hc) fun ds M Q q => by match ds, q with | [d], q => exact q | [], q => exact q | _ :: _ :: _, q => exact q⟩
  | sum => cases hn; exact ⟨_, .b rfl boot_sum, by decide, cd_imp (c_sum hc) fun ds M Q q => by match ds, q with | [d], q => exact q | [], q => exact q | _ :: _ :: _, q => exact q⟩
  | repr => cases hn; exact ⟨_, .b rfl boot_repr, by decide, cd_imp (c_repr hgd (by omega)) fun ds M Q q => by match ds, q with | [d], q => exact q | [], q => exact q | _ :: _ :: _, q => exact q⟩
  | min => cases hn; exact ⟨_, .b rfl boot_min, by decide, cd_imp (c_minA hc) fun ds M Q q => by match ds, q with | [d, e], q => exact q | [], q => exact q | [_], q => exact q | _ :: _ :: _ :: _, q => exact q⟩
  | max => cases hn; exact ⟨_, .b rfl boot_max, by decide, cd_imp (c_maxA hc) fun ds M Q q => by match ds, q with | [d, e], q => exact q | [], q => exact q | [d], q => exact q | _ :: _ :: _ :: _, q => exact q⟩
  | divmod => cases hn; exact ⟨_, .b rfl boot_divmod, by decide, cd_imp c_divmod fun ds M Q q => by match ds, q with | [d, e], q => exact q | [], q => exact q | [_], q => exact q | _ :: _ :: _ :: _, q => exact q⟩
  | dict => cases hn; exact ⟨_, .t rfl boot_dict, by decide, cd_imp (c_dict hc) fun ds M Q q => by match ds, q with | [d], q => exact q | [], q => exact q | _ :: _ :: _, q => exact q⟩
  | sorted => cases hn; exact ⟨_, .b rfl boot_sorted, by decide, cd_imp (c_sorted hc (by omega)) fun ds M Q q => by match ds, q with | [d], q => exact q | [], q => exact q | _ :: _ :: _, q => exact q⟩

theorem ty_val {X : Cx} {I : Inf} {k : Nat} {P : Program} {w : World} {K : PySem.W.Frag} {mg : Str → Option Value} {base : Heap} {W : Wd} {p q : FId → CallT} (O : Okk X I k) (hb : ∀ x ∈ bNames, X.mg x = none) {t : Ty} {e : Expr} (h : mTy1 I t e = true) : ∃ n, t = .bt n ∧ n ∈ isTys ∧ PE X e (tC (.ty n)) := by
  unfold mTy1 at h
  split at h
  · rename_i n y pos
    simp only [Bool.and_eq_true] at h
    obtain ⟨⟨h1, h2⟩, h3⟩ := h
    have e1 := of_decide_eq_true h1
    subst e1
    have hn := of_decide_eq_true h3
    obtain ⟨g1, g2, g3⟩ := gl_of O h2
    refine ⟨n, rfl, hn, pe_bltn g1 ?_ ?_ rfl g3 g2⟩
    · refine hb _ ?_
      simp only [isTys, List.mem_cons, List.not_mem_nil, or_false] at hn
      rcases hn with rfl | rfl | rfl | rfl | rfl | rfl <;> decide
    · simp only [isTys, List.mem_cons, List.not_mem_nil, or_false] at hn
      rcases hn with rfl | rfl | rfl | rfl | rfl | rfl <;> decide +kernel
  · cases h
theorem kit_any {K : PySem.W.Frag} {n : String} (hn : n ∈ tyNames) : ∀ {ns : List String}, (∀ m ∈ ns, m ∈ isTys) → PySem.W.kitAny K (.type n) (ns.map Value.type) = some ((ns.map Ty.bt).any (isTy (.bt n)))
  | [], _ => kitAny_nil
  | m :: ns, h => by
    refine kitAny_cons (kit_of2 hn (h m (by simp))) (fun hb => ?_) fun hb => ?_
    · rw [List.map_cons, List.any_cons, hb, Bool.false_or]
      exact kit_any hn fun m hm => h m (List.mem_cons_of_mem _ hm)
    · rw [List.map_cons, List.any_cons, hb, Bool.true_or]
theorem tys_vals {X : Cx} {I : Inf} {k : Nat} (O : Okk X I k) (hb : ∀ x ∈ bNames, X.mg x = none) : ∀ {ts : List Ty} {es : List Expr}, mTyL I ts es = true → ∃ ns : List String, ts = ns.map Ty.bt ∧ (∀ m ∈ ns, m ∈ isTys) ∧ ns.length = es.length ∧ PA X es (fun _ H Q => Q (ns.map V.ty) H)
  | [], [], _ => ⟨[], rfl, fun m hm => absurd hm List.not_mem_nil, rfl, pa_nil⟩
  | t :: ts, e :: es, h => by
    unfold mTyL at h
    rw [Bool.and_eq_true] at h
    obtain ⟨n, e1, hn, he⟩ := ty_val (P := X.prog) (w := X.w) (K := X.K) (mg := X.mg) (base := X.base) (W := ⟨fun _ => none, fun _ => none, fun _ _ => false, [], X.w, Xt.none⟩) (p := fun _ _ _ _ _ => False) (q := fun _ _ _ _ _ => False) O hb h.1
    obtain ⟨ns, e2, hns, hl, hes⟩ := tys_vals O hb h.2
    subst e1 e2
    refine ⟨n :: ns, rfl, fun m hm => ?_, by rw [List.length_cons, List.length_cons, hl], (pa_cons he hes ?_).imp fun σ H Q q => q⟩
    · rcases List.mem_cons.mp hm with e | hm
      · rw [e]; exact hn
      · exact hns m hm
    · have h1 := h.1
      unfold mTy1 at h1
      split at h1
      · rfl
      · cases h1
  | [], _ :: _, h => by unfold mTyL at h; cases h
  | _ :: _, [], h => by unfold mTyL at h; cases h
theorem cls_vals {ns : List String} : Paired ClsV (ns.map V.ty) (ns.map Value.type) := by
  induction ns with
  | nil => exact .nil
  | cons n ns ih => exact .cons (.ty n) ih
theorem le_isi {X : Cx} {B : Bs} {I : Inf} {k : Nat} {W : Wd} {p q : FId → CallT} {pf pos : Pos} {x t : Expr} {tx : DE} {ts : List Ty} (O : Okk X I k) (hW : WOk X.prog X.w X.K X.mg X.base W p q k) (hg : glB I "isinstance" = true) (hx : PE X x (LE X.K B tx)) (hs : nSt x = true) (hs2 : nSt t = true) (ht : mTy I ts t = true) :
    PE X (.Call (.Name "isinstance" pf) [x, t] [] pos) (LE X.K B (VT fun σ M Q => tx σ M fun y M1 => rdIsi ts y M1 Q)) := by
  obtain ⟨g1, g2, g3⟩ := gl_of O hg
  have hm := hW.bn "isinstance" (by decide)
  have hst : starEach [x, t] X.env = (false, eval x X.env) :: starEach [t] X.env := star_cons hs
  have hst2 : starEach [t] X.env = (false, eval t X.env) :: starEach [] X.env := star_cons hs2
  have hpl : (backTo pos (starEach [t] X.env)).any (·.1) = false := by rw [hst2]; rfl
  unfold mTy at ht
  split at ht
  · rename_i t1
    obtain ⟨n, e1, hn, he⟩ := ty_val (P := X.prog) (w := X.w) (K := X.K) (mg := X.mg) (base := X.base) (W := W) (p := p) (q := q) O hW.bn ht
    subst e1
    refine (pe_callB call_isi g1 hm PyProof.Rows.boot_isinstance (pa_cons hx (pa_cons he pa_nil hst2) hst) g3 g2 hst hpl).imp fun σ H Q ⟨σd, M, Qd, a, tt, kk⟩ => ?_
    refine LE.seq a tt fun d M1 v H1 f1 a1 r1 ⟨m, em, q⟩ => ?_
    obtain ⟨hm, ty⟩ := tyOf_rep em r1 a1.m
    refine ⟨v, .ty n, .type m, .type n, _, rfl, .ty n, ty, kit_of2 hm hn, ?_⟩
    refine kk _ M1 _ H1 f1 (mk_bl _) a1.m ?_
    have e : [Ty.bt n].any (isTy (.bt m)) = isTy (.bt m) (.bt n) := by simp
    rw [e] at q
    exact q
  · split at ht
    · rename_i es _ _
      rw [Bool.and_eq_true] at ht
      obtain ⟨ns, e1, hns, hl, hes⟩ := tys_vals O hW.bn ht.1
      have hle := of_decide_eq_true ht.2
      subst e1
      refine (pe_callB call_isiT g1 hm PyProof.Rows.boot_isinstance (pa_cons hx (pa_cons (pe_tup hes) pa_nil hst2) hst) g3 g2 hst hpl).imp fun σ H Q ⟨σd, M, Qd, a, tt, kk⟩ => ?_
      refine LE.seq a tt fun d M1 v H1 f1 a1 r1 ⟨m, em, q⟩ => ?_
      obtain ⟨hm, ty⟩ := tyOf_rep em r1 a1.m
      refine ⟨?_, fun p hp => ?_⟩
      · rw [List.length_map, hl, sizeLine_eq]; omega
      · have k1 : KeepF H1 (upd H1 p (.tup (ns.map V.ty))) := .new hp
        have r1' := r1.keep k1
        have m1' := a1.m.hid (o := .tup (ns.map V.ty)) hp
        obtain ⟨_, ty'⟩ := tyOf_rep em r1' m1'
        refine ⟨v, p, _, .type m, _, _, rfl, upd_same, cls_vals, ty', kit_any hm hns, ?_⟩
        exact kk _ M1 _ _ (f1.trans (.hid hp)) (mk_bl _) m1' q
    · cases ht
/-- a class that is named -/
def xtC (K : PySem.W.Frag) : XT → V
  | .own C => .ref (He.ga K C)
  | .bt n => .ty n
theorem xt_rel {K : PySem.W.Frag} {d : XT} : ∀ u, RelV (xtC K d) u → u = xtV K d := by
  cases d with
  | own C => intro u h; cases h; rfl
  | bt n => intro u h; cases h; rfl
theorem xt_val {X : Cx} {I : Inf} {k : Nat} (O : Okk X I k) {d : XT} {e : Expr} (h : mXT I d e = true) (hm : xtM X.K X.mg d) : PE X e (tC (xtC X.K d)) := by
  unfold mXT at h
  split at h
  · rename_i C y pos
    rw [Bool.and_eq_true] at h
    have e1 := of_decide_eq_true h.1
    subst e1
    obtain ⟨g1, g2, g3⟩ := gl_of O h.2
    exact pe_glob g1 hm rfl g2
  · rename_i n y pos
    simp only [Bool.and_eq_true] at h
    have e1 := of_decide_eq_true h.1.1
    subst e1
    obtain ⟨g1, g2, g3⟩ := gl_of O h.1.2
    have hn := of_decide_eq_true h.2
    refine pe_bltn g1 hm ?_ rfl g3 g2
    simp only [xbNames, List.mem_cons, List.not_mem_nil, or_false] at hn
    rcases hn with rfl | rfl | rfl | rfl | rfl | rfl | rfl <;> decide +kernel
  · cases h
theorem xt_vals {X : Cx} {I : Inf} {k : Nat} (O : Okk X I k) : ∀ {ds : List XT} {es : List Expr}, mXTL I ds es = true → (∀ d ∈ ds, ∃ n : String, d = .bt n ∧ X.mg (n : Str) = none) → ∃ ns : List String, ds = ns.map XT.bt ∧ ns.length = es.length ∧ PA X es (fun _ H Q => Q (ns.map V.ty) H)
  | [], [], _, _ => ⟨[], rfl, rfl, pa_nil⟩
  | d :: ds, e :: es, h, hd => by
    unfold mXTL at h
    rw [Bool.and_eq_true] at h
    obtain ⟨n, e1, hn⟩ := hd d (List.mem_cons_self ..)
    subst e1
    have he := xt_val O h.1 hn
    obtain ⟨ns, e2, hl, hes⟩ := xt_vals O h.2 fun d hd' => hd d (List.mem_cons_of_mem _ hd')
    subst e2
    refine ⟨n :: ns, rfl, by rw [List.length_cons, List.length_cons, hl], (pa_cons he hes ?_).imp fun σ H Q q => q⟩
    have h1 := h.1
    unfold mXT at h1
    split at h1
    · rfl
    · rfl
    · cases h1
  | [], _ :: _, h, _ => by unfold mXTL at h; cases h
  | _ :: _, [], h, _ => by unfold mXTL at h; cases h
theorem kitAny_no {K : PySem.W.Frag} {t : Value} : ∀ {ns : List String}, (∀ n ∈ ns, PySem.W.kitOne K t (.type n) = some false) → PySem.W.kitAny K t (ns.map Value.type) = some false
  | [], _ => rfl
  | n :: ns, h => by
    show (match PySem.W.kitOne K t (.type n) with | some true => some true | some false => PySem.W.kitAny K t (ns.map Value.type) | none => none) = some false
    rw [h n (List.mem_cons_self ..)]
    exact kitAny_no fun m hm => h m (List.mem_cons_of_mem _ hm)
theorem lookup_mem {α β : Type} [BEq α] [LawfulBEq α] {l : List (α × β)} {a : α} {b : β} (h : l.lookup a = some b) : (a, b) ∈ l := by
  induction l with
  | nil => cases h
  | cons p l ih =>
    obtain ⟨x, y⟩ := p
    rw [List.lookup_cons] at h
    cases e : (a == x) with
    | true =>
      rw [e] at h
      cases h
      rw [eq_of_beq e]
      exact List.mem_cons_self ..
    | false =>
      rw [e] at h
      exact List.mem_cons_of_mem _ (ih h)
theorem le_xiss {X : Cx} {B : Bs} {I : Inf} {k : Nat} {W : Wd} {p q : FId → CallT} {pf pos : Pos} {x t : Expr} {tx : DE} {ds : List XT} {tab : List (Str × Bool)} (O : Okk X I k) (hW : WOk X.prog X.w X.K X.mg X.base W p q k) (hg : glB I "isinstance" = true) (hx : PE X x (LE X.K B tx)) (hs : nSt x = true) (hs2 : nSt t = true) (ht : mXTs W.xt I ds tab t = true) :
    PE X (.Call (.Name "isinstance" pf) [x, t] [] pos) (LE X.K B (VT fun σ M Q => tx σ M fun y M1 => ∃ C b, xcls y = some C ∧ tab.lookup C = some b ∧ Q b M1)) := by
  obtain ⟨g1, g2, g3⟩ := gl_of O hg
  have hm := hW.bn "isinstance" (by decide)
  have hst : starEach [x, t] X.env = (false, eval x X.env) :: starEach [t] X.env := star_cons hs
  have hst2 : starEach [t] X.env = (false, eval t X.env) :: starEach [] X.env := star_cons hs2
  unfold mXTs at ht
  split at ht
  · rename_i d
    simp only [Bool.and_eq_true] at ht
    obtain ⟨⟨ht, hne⟩, hall⟩ := ht
    have fact : ∀ p ∈ tab, XbF X.K (He.ga X.K p.1) ∧ PySem.W.kitOne X.K (.ref (He.ga X.K p.1)) (xtV X.K d) = some p.2 ∧ xtM X.K X.mg d := fun p hp => hW.xt.is p.1 d p.2 (of_decide_eq_true (List.all_eq_true.mp hall p hp))
    obtain ⟨p0, h0⟩ : ∃ p, p ∈ tab := by
      cases tab with
      | nil => cases hne
      | cons p r => exact ⟨p, List.mem_cons_self ..⟩
    exact le_xis (ok := fun C => ∃ b, (C, b) ∈ tab) (tab := fun C => tab.lookup C) (fun C ⟨b, hb⟩ => (fact _ hb).1) (fun C b e => ⟨⟨b, lookup_mem e⟩, (fact _ (lookup_mem e)).2.1⟩) xt_rel g1 hm hx (xt_val O ht (fact _ h0).2.2) hst hst2
  · split at ht
    · rename_i es _ _ _
      simp only [Bool.and_eq_true] at ht
      obtain ⟨⟨⟨⟨h1, h2⟩, hne, hds⟩, h3⟩, h4⟩ := ht
      obtain ⟨p0, h0⟩ : ∃ p, p ∈ tab := by
        cases tab with
        | nil => cases hne
        | cons p r => exact ⟨p, List.mem_cons_self ..⟩
      have fact : ∀ p ∈ tab, p.2 = false ∧ ∀ d ∈ ds, XbF X.K (He.ga X.K p.1) ∧ PySem.W.kitOne X.K (.ref (He.ga X.K p.1)) (xtV X.K d) = some false ∧ xtM X.K X.mg d := fun p hp => by
        have z := List.all_eq_true.mp h4 p hp
        simp only [Bool.and_eq_true, Bool.not_eq_true'] at z
        exact ⟨z.1, fun d hd => hW.xt.is p.1 d false (of_decide_eq_true (List.all_eq_true.mp z.2 d hd))⟩
      obtain ⟨ns, e1, hl, hes⟩ := xt_vals O h1 fun d hd => by
        have z := List.all_eq_true.mp h3 d hd
        cases d with
        | own C => cases z
        | bt n => exact ⟨n, rfl, ((fact _ h0).2 _ hd).2.2⟩
      have hle := of_decide_eq_true h2
      by_cases hnil : ds = []
      · rw [hnil] at hds
        cases hds
      · exact le_xisT (ok := fun C => ∃ b, (C, b) ∈ tab) (tab := fun C => tab.lookup C) (ns := ns) (fun C ⟨b, hb⟩ => by
          obtain ⟨d, hd⟩ := List.exists_mem_of_ne_nil _ hnil
          exact ((fact _ hb).2 d hd).1) (fun C b e => ⟨⟨b, lookup_mem e⟩, by
          have z := fact _ (lookup_mem e)
          rw [show b = false from z.1]
          exact kitAny_no fun n hn => (z.2 (.bt n) (by rw [e1]; exact List.mem_map_of_mem hn)).2.1⟩) g1 hm hx hes (by rw [hl]; omega) hst hst2
    · cases ht
structure OkW (W : Wd) (p q : FId → CallT) (k : Nat) (X : Cx) (I : Inf) (B : Bs) (E : ED) : Prop where
  o : Okk X I k
  w : WOk X.prog X.w X.K X.mg X.base W p q k
  d : W.wd = X.w
  k1 : 1 ≤ k
  x : Takes X (WXE X.K B E)
  lam : I.lf ≠ "" → X.env.code = .ref (codA X.K I.lf) ∧ X.env.qual ++ ("<lambda>" : Str) = lamQ I.lf ∧ Slk k X.A
theorem OkW.blk {W : Wd} {p q : FId → CallT} {k : Nat} {X : Cx} {I : Inf} {B B' : Bs} {E : ED} (O : OkW W p q k X I B E) (scope : Scope) (s : Shared) (H : Hp) (C : Addr) (cl : List (Str × Addr)) (fp : List Addr) : OkW W p q k (X.blk s H scope (compEnvC scope cl C X.env) fp) (I.blk scope) B' EF0 := ⟨O.o.blk scope s H C cl fp, O.w, O.d, O.k1, takes_no, fun h => absurd rfl h⟩
abbrev TV (X : Cx) (B : Bs) (v : Bool) (e : Expr) (t : DT) : Prop := match v with
  | false => PT X e (LT X.K B t)
  | true => PE X e (LE X.K B (VT t))
theorem lst_rcv {K : PySem.W.Frag} : ∀ d M H v, (∃ xs, lsOf M d = some xs) → Rep K H d v → RepM K M H → tyV K "list" v H := fun d M H v ⟨xs, e⟩ r m => by
  obtain ⟨a, vs, rfl, hs, _⟩ := lsOf_rep e r m
  exact .inl ⟨rfl, vs, hs.sql⟩
theorem str_rcv {K : PySem.W.Frag} : ∀ d M H v, (∃ z, d = .str z) → Rep K H d v → RepM K M H → tyV K "str" v H := fun d (M : MM) H v ⟨z, e⟩ r m => by
  subst e
  rw [rep_str r]
  exact (rfl : "str" = "str")
theorem le_conv0 {X : Cx} {B : Bs} {e : Expr} {t t' : DE} (h : PE X e (LE X.K B t)) (c : ∀ σ M Q, t' σ M Q → t σ M Q) : PE X e (LE X.K B t') := h.imp fun σ H Q ⟨σd, M, Qd, a, ht, k⟩ => ⟨σd, M, Qd, a, c _ _ _ ht, k⟩
section
variable {W : Wd} {p q : FId → CallT} {k : Nat}
mutual
theorem sE : ∀ (c : CE) (I : Inf) (e : Expr) (X : Cx) (B : Bs × ED), mE W c I e = true → OkW W p q k X I B.1 B.2 → PE X e (LE X.K B.1 (wpE (gamW W p q) B.2 c))
  | .var i, I, e, X, B, h, O => by
    unfold mE at h
    split at h
    · obtain ⟨h1, h2, h3, h4⟩ := vis_of O.o h
      exact le_var (pe_var h1 h2 h3 h4)
    · cases h
  | .glb y, I, e, X, B, h, O => by
    unfold mE at h
    split at h
    · rename_i x pos
      rw [Bool.and_eq_true] at h
      have e1 := of_decide_eq_true h.1
      subst e1
      obtain ⟨h1, h2, _⟩ := gl_of O.o h.2
      cases hg : W.gl x with
      | none =>
        refine ⟨fun pins s σ H Q I ⟨σd, M, Qd, a, t, k⟩ => ?_⟩
        obtain ⟨d, e, _⟩ := (show ∃ d, W.gl x = some d ∧ Qd d M from t)
        rw [hg] at e
        cases e
      | some d =>
        obtain ⟨u, v, hm, r, hd⟩ := O.w.glob x d hg
        refine (le_tv (pe_glob h1 hm r h2) hd).imp fun σ H Q ⟨σd, M, Qd, a, t, k⟩ => ⟨σd, M, Qd, a, ?_, k⟩
        obtain ⟨d', e, q⟩ := (show ∃ d, W.gl x = some d ∧ Qd d M from t)
        rw [hg] at e
        cases e
        exact q
    · cases h
  | .int i, I, e, X, B, h, O => by
    unfold mE at h
    split at h
    · have e1 := of_decide_eq_true h
      subst e1
      exact le_tv pe_int fun H => mk_int i
    · cases h
  | .str i, I, e, X, B, h, O => by
    unfold mE at h
    split at h
    · have e1 := of_decide_eq_true h
      subst e1
      exact le_tv pe_str fun H => mk_str i
    · cases h
  | .bl i, I, e, X, B, h, O => by
    unfold mE at h
    split at h
    · have e1 := of_decide_eq_true h
      subst e1
      exact le_tv pe_bl fun H => mk_bl i
    · cases h
  | .non, I, e, X, B, h, O => by
    unfold mE at h
    split at h
    · exact le_tv pe_non fun H => mk_non
    · cases h
  | .bin o fz a b, I, e, X, B, h, O => by
    unfold mE at h
    split at h
    · simp only [Bool.and_eq_true] at h
      have e1 := of_decide_eq_true h.1.1
      subst e1
      exact le_bin (sE a I _ X B h.1.2 O) (sE b I _ X B h.2 O)
    · cases h
  | .neg a, I, e, X, B, h, O => by
    unfold mE at h
    split at h
    · exact le_neg (sE a I _ X B h O)
    · cases h
  | .tst t, I, e, X, B, h, O => by
    unfold mE at h
    exact sT t true I e X B h O
  | .ifx c a b, I, e, X, B, h, O => by
    unfold mE at h
    split at h
    · simp only [Bool.and_eq_true] at h
      exact le_ifx (sT c false I _ X B h.1.1 O) (sE a I _ X B h.1.2 O) (sE b I _ X B h.2 O)
    · cases h
  | .tup es, I, e, X, B, h, O => by
    unfold mE at h
    split at h
    · exact le_tup (sEs es I _ X B h O)
    · cases h
  | .lst fz es, I, e, X, B, h, O => by
    unfold mE at h
    split at h
    · exact le_lst (sEs es I _ X B h O)
    · cases h
  | .dct fz ks vs, I, e, X, B, h, O => by
    unfold mE at h
    simp only [Bool.and_eq_true] at h
    obtain ⟨⟨h1, h2⟩, h3⟩ := h
    split at h3
    · cases ks with
      | nil => exact le_dct0.imp fun σ H Q ⟨σd, M, Qd, a, t, k⟩ => ⟨σd, M, Qd, a, (show ([] : List D) = [] ∧ newD fz [] [] M Qd from t).2, k⟩
      | cons a b => cases h1
      | star a b => cases h1
      | starD a b => cases h1
    · cases h3
  | .dcs ks vs, I, e, X, B, h, O => by
    unfold mE at h
    split at h
    · simp only [Bool.and_eq_true, Bool.not_eq_true', List.isEmpty_eq_false_iff] at h
      obtain ⟨⟨⟨h1, h2⟩, h3⟩, h4⟩ := h
      exact le_dcs (sD vs ks I _ _ X B h1 O) (of_decide_eq_true h2) h3 (of_decide_eq_true h4)
    · cases h
  | .lc fz elt g it ifs own, I, e, X, B, h, O => by
    unfold mE at h
    split at h
    · rename_i x tg iter tests scope pos
      simp only [Bool.and_eq_true] at h
      obtain ⟨⟨⟨⟨⟨⟨⟨h1, h2⟩, h3⟩, h4⟩, h5⟩, h6⟩, h7⟩, h8⟩ := h
      have hb : BlkOk X.N X.env.scope scope own := by rw [O.o.N, O.o.sc]; exact blkOk_by h3
      refine le_lc O.o.calm (by rw [O.o.N]; exact O.o.nd) (sI it I g.isTup iter tg X B h1 ?_ O) hb (fun i hi => of_decide_eq_true (List.all_eq_true.mp h4 i hi)) ?_ ?_ ?_ (fold_of h2)
      · intro ht
        split at h5
        · exact ⟨_, _, _, rfl⟩
        · rw [ht] at h5; cases h5
      · exact fun s H C cl fp => sG g (I.blk scope) tg _ (B.1, EF0) h6 (O.blk scope s H C cl fp)
      · exact fun s H C cl fp => sTs ifs (I.blk scope) tests _ (B.1, EF0) h7 (O.blk scope s H C cl fp)
      · exact fun s H C cl fp => sE elt (I.blk scope) x _ (B.1, EF0) h8 (O.blk scope s H C cl fp)
    · cases h
  | .lc2 fz elt g it ifs own g1 e1 ifs1 own1, I, e, X, B, h, O => by
    unfold mE at h
    split at h
    · rename_i x tg iter tests tg1 iter1 tests1 scope pos
      simp only [Bool.and_eq_true] at h
      obtain ⟨⟨⟨⟨⟨⟨⟨⟨h1, h2⟩, h3⟩, h4⟩, h5⟩, h6⟩, h7⟩, h8⟩, ⟨⟨⟨⟨k1, k2⟩, k3⟩, k4⟩, k5⟩, k6⟩ := h
      have hb : BlkOk X.N X.env.scope scope own := by rw [O.o.N, O.o.sc]; exact blkOk_by h3
      refine le_lc2 (ws := gSlots g) (ws1 := gSlots g1) O.o.calm (by rw [O.o.N]; exact O.o.nd) (sI it I g.isTup iter tg X B h1 ?_ O) hb (fun i hi => of_decide_eq_true (List.all_eq_true.mp h4 i hi)) (fun i hi => of_decide_eq_true (List.all_eq_true.mp k3 i hi)) (fun i hi => of_decide_eq_true (List.all_eq_true.mp k4 i hi)) ?_ ?_ ?_ ?_ ?_ ?_ (fold_of h2) (fun env => fold_of k2)
      · intro ht
        split at h5
        · exact ⟨_, _, _, rfl⟩
        · rw [ht] at h5; cases h5
      · exact fun s H C cl fp => sG g (I.blk scope) tg _ (B.1, EF0) h6 (O.blk scope s H C cl fp)
      · exact fun s H C cl fp => sTs ifs (I.blk scope) tests _ (B.1, EF0) h7 (O.blk scope s H C cl fp)
      · exact fun s H C cl fp => sE elt (I.blk scope) x _ (B.1, EF0) h8 (O.blk scope s H C cl fp)
      · exact fun s H C cl fp => sE e1 (I.blk scope) iter1 _ (B.1, EF0) k1 (O.blk scope s H C cl fp)
      · exact fun s H C cl fp => sG g1 (I.blk scope) tg1 _ (B.1, EF0) k5 (O.blk scope s H C cl fp)
      · exact fun s H C cl fp => sTs ifs1 (I.blk scope) tests1 _ (B.1, EF0) k6 (O.blk scope s H C cl fp)
    · cases h
  | .lrange1 fz a, I, e, X, B, h, O => by
    unfold mE at h
    split at h
    · rename_i x px y py z pos2 pos
      simp only [Bool.and_eq_true] at h
      obtain ⟨⟨⟨⟨h1, h2⟩, h3, h4⟩, h5⟩, h6⟩ := h
      have e1 := of_decide_eq_true h1
      have e2 := of_decide_eq_true h3
      subst e1 e2
      exact le_lrange1 O.o.calm (gl_of O.o h2).1 (O.w.bn _ (by decide)) (gl_of O.o h4).1 (O.w.bn _ (by decide)) (sE a I _ X B h5 O) (star_cons (by simpa [nStL] using h6))
    · cases h
  | .nevE, I, e, X, B, h, O => le_never
  | .mkx C f kw a, I, e, X, B, h, O => by
    unfold mE at h
    split at h
    · simp only [Bool.and_eq_true] at h
      obtain ⟨⟨⟨⟨⟨h0, h1⟩, h2⟩, h3⟩, h4⟩, h5⟩ := h
      have e1 := of_decide_eq_true h1
      subst e1
      obtain ⟨g1, g2, _⟩ := gl_of O.o h2
      obtain ⟨T, hm⟩ := O.w.xt.xc _ _ (of_decide_eq_true h3)
      exact le_mkx T (O.o.room.mono O.k1) (O.w.bn _ (by decide)) g1 hm (sE a I _ X B h5 O) g2 (star_cons h4)
    · simp only [Bool.and_eq_true] at h
      obtain ⟨⟨⟨⟨⟨h0, h1⟩, h1'⟩, h2⟩, h3⟩, h5⟩ := h
      have e1 := of_decide_eq_true h1
      have e2 := of_decide_eq_true h1'
      subst e1 e2
      obtain ⟨g1, g2, _⟩ := gl_of O.o h2
      obtain ⟨T, hm⟩ := O.w.xt.xc _ _ (of_decide_eq_true h3)
      exact le_mkxk T (O.o.room.mono O.k1) (O.w.bn _ (by decide)) g1 hm (sE a I _ X B h5 O) g2
    · cases h
  | .mkx0 C, I, e, X, B, h, O => by
    unfold mE at h
    split at h
    · simp only [Bool.and_eq_true] at h
      have e1 := of_decide_eq_true h.1.1
      subst e1
      obtain ⟨g1, g2, _⟩ := gl_of O.o h.1.2
      obtain ⟨q, kC, hm⟩ := O.w.xt.x0 _ (of_decide_eq_true h.2)
      exact le_mkx0 q kC g1 hm g2
    · cases h
  | .reprd a, I, e, X, B, h, O => by
    unfold mE at h
    rw [Bool.and_eq_true] at h
    obtain ⟨h0, h⟩ := h
    split at h
    · simp only [Bool.and_eq_true] at h
      obtain ⟨⟨⟨h1, h2⟩, h3⟩, h4⟩ := h
      have e1 := of_decide_eq_true h1
      subst e1
      obtain ⟨g1, g2, g3⟩ := gl_of O.o h2
      exact le_callB (c_reprd (O.w.xt.sm h0) O.o.gd (by have := O.o.room.un; omega)) g1 (O.w.bn _ (by decide)) boot_repr (la_cons (sE a I _ X B h3 O) la_nil (star_cons h4)) g3 g2 (star_cons h4) rfl
    · cases h
  | .heard T g hd c, I, e, X, B, h, O => by
    unfold mE at h
    split at h
    · rename_i x xp params body scope lp pos
      simp only [Bool.and_eq_true] at h
      obtain ⟨⟨⟨⟨⟨⟨⟨⟨h1, h2⟩, h3⟩, h4⟩, h5⟩, h6⟩, h7⟩, h8⟩, h9⟩ := h
      have e1 := of_decide_eq_true h1
      subst e1
      have e3 : T = I.lf := of_decide_eq_true h3
      have hT : T ≠ "" := of_decide_eq_true h4
      obtain ⟨g1, g2, g3⟩ := gl_of O.o h2
      obtain ⟨l1, l2, l3⟩ := O.lam (e3 ▸ hT)
      have F := O.w.xt.hd x hd (of_decide_eq_true h8)
      obtain ⟨g, pg, bd, tl, h₀, hds, sg, dV, kV, doc, pm, cdv, ct, oc, an, od, osl, tp, a1, a2, a3, a4, a5, a6, a7, a8, a9, b1, b2, b3⟩ := F.ex
      have L : LamX.LamS X.env.scope scope := by rw [O.o.sc]; exact LamX.lamS_by h6
      have z := le_heard (X := X) (B := B.1) (tc := fun E' => wpE (gamW W p q) E' c) (all := hd.all) (l := hd.cl.map clzOf) (fm := hd.fm) (T := T) (x := x) (a := hd.a) (k := k) (body := body) (scope := scope) (p := xp) (lpos := lp) (pos := pos) g1 a1 a2 a3 a4 a5 a6 a7 a8 a9 F.al
        (fun s H hr => b3 X.A X.stack s H hr O.o.gd) (O.w.xt.tb T (of_decide_eq_true h5)) (by rw [e3]; exact l1) (by rw [e3]; exact l2) l3 O.o.gd L (noPar_def h7 _) (noPar_bind h7)
        (fun E A outer s H f c' hr hg => ⟨fun pins s1 σ1 H1 Q1 I1 ⟨M1, H2, Ed, e5, hl⟩ => by
          subst e5
          exact (sE c ⟨I.N, scope, some emptySc, ""⟩ body (LamX.lamCx X A outer s H (KXd X.K M1 H2 Ed) scope f c') ((M1, H2), fun C ks vs _ M' => ∃ M'', Sub M'' M' ∧ Ed C ks vs M'') h9
            ⟨⟨rfl, hg, hr, O.o.N, O.o.nd, rfl, fun x hx => (nomatch (show decide ((none : Option NameKind) = some .cell) = true from hx)), passes_of rfl⟩, O.w, O.d, O.k1, (takes_of rfl rfl rfl rfl).imp fun cls d σ H1 ⟨C, f, y, dx, v, σd, M1, e1, e2, h1, h2, a1, M2, sb, q⟩ => ⟨C, f, y, dx, v, M2, e1, e2, h1, h2, a1.m.sub sb, a1.b.sub sb, q⟩, fun h => absurd rfl h⟩).run pins s1 σ1 H1 Q1 I1 hl⟩) g2 b1 b2
      refine le_conv0 z fun σ M Q h => ?_
      unfold hdW
      rw [hdE_clz]
      exact h
    · cases h
  | .xfld a f Cs, I, e, X, B, h, O => by
    unfold mE at h
    split at h
    · simp only [Bool.and_eq_true] at h
      have e1 := of_decide_eq_true h.1.1.1
      subst e1
      exact le_xfld (ok := fun C => C ∈ Cs) (fun C hC => by
        obtain ⟨⟨_, _, _, F⟩, hm⟩ := O.w.xt.xc _ _ (of_decide_eq_true (List.all_eq_true.mp h.2 C hC))
        exact ⟨F.toXbF, F.noF⟩) (sE a I _ X B h.1.2 O) (base_of h.1.1.2)
    · cases h
  | .dc fz kk v g it own, I, e, X, B, h, O => by
    unfold mE at h
    split at h
    · rename_i y x tg iter scope pos
      simp only [Bool.and_eq_true] at h
      obtain ⟨⟨⟨⟨⟨⟨⟨h1, h2⟩, h3⟩, h4⟩, h5⟩, h6⟩, h7⟩, h8⟩ := h
      have hb : BlkOk X.N X.env.scope scope own := by rw [O.o.N, O.o.sc]; exact blkOk_by h3
      refine le_dc O.o.calm (by rw [O.o.N]; exact O.o.nd) (sI it I g.isTup iter tg X B h1 ?_ O) hb (fun i hi => of_decide_eq_true (List.all_eq_true.mp h4 i hi)) ?_ ?_ ?_ (fold_of h2)
      · intro ht
        split at h5
        · exact ⟨_, _, _, rfl⟩
        · rw [ht] at h5; cases h5
      · exact fun s H C cl fp => sG g (I.blk scope) tg _ (B.1, EF0) h6 (O.blk scope s H C cl fp)
      · exact fun s H C cl fp => sE kk (I.blk scope) y _ (B.1, EF0) h7 (O.blk scope s H C cl fp)
      · exact fun s H C cl fp => sE v (I.blk scope) x _ (B.1, EF0) h8 (O.blk scope s H C cl fp)
    · cases h
  | .call f args, I, e, X, B, h, O => by
    unfold mE at h
    split at h
    · simp only [Bool.and_eq_true] at h
      obtain ⟨⟨⟨⟨h1, h2⟩, h3⟩, h4⟩, h5⟩ := h
      have e1 := of_decide_eq_true h1
      subst e1
      obtain ⟨g1, g2, _⟩ := gl_of O.o h2
      obtain ⟨c, hc⟩ := Option.isSome_iff_exists.mp h3
      obtain ⟨fa, fd, hm, hk, hb, _, F⟩ := O.w.fn _ _ hc
      exact le_call F O.o.room O.o.gd g1 hm hk hb (sEs args I _ X B h4 O) g2 (star_any h5) O.x
    · cases h
  | .callk f args ks kws, I, e, X, B, h, O => by
    unfold mE at h
    split at h
    · rename_i x px xs k1 kr pos
      simp only [Bool.and_eq_true] at h
      obtain ⟨⟨⟨⟨⟨⟨⟨h1, h2⟩, h3⟩, h4⟩, h5⟩, h6⟩, h7⟩, h8⟩ := h
      have e1 := of_decide_eq_true h1
      subst e1
      obtain ⟨g1, g2, _⟩ := gl_of O.o h2
      obtain ⟨c, hc⟩ := Option.isSome_iff_exists.mp h3
      obtain ⟨fa, fd, hm, hk, hb, hkw, F⟩ := O.w.fn _ _ hc
      have h6' := of_decide_eq_true h6
      have names : (backToKw pos (keywordEach (k1 :: kr) X.env)).map (·.1) = ks.map some := by
        rw [← h6']
        generalize (k1 :: kr) = l
        induction l with
        | nil => rfl
        | cons a l ih =>
          obtain ⟨n, v, p⟩ := a
          show n :: (backToKw pos (keywordEach l X.env)).map (·.1) = n :: kwNames l
          rw [ih]
      have hall : (backToKw pos (keywordEach (k1 :: kr) X.env)).all (·.1.isSome) = true := by
        have : ((backToKw pos (keywordEach (k1 :: kr) X.env)).map (·.1)).all Option.isSome = true := by rw [names]; simp
        rw [List.all_map] at this
        exact this
      have hks : (backToKw pos (keywordEach (k1 :: kr) X.env)).filterMap (·.1) = ks := by
        have : ((backToKw pos (keywordEach (k1 :: kr) X.env)).map (·.1)).filterMap id = ks := by rw [names]; simp
        rw [List.filterMap_map] at this
        exact this
      have hp : (gamW W p q).par x = c.ps := by show (match W.T (x, none) with | some c => c.ps | none => _) = c.ps; rw [hc]
      have z := le_callk (pos := pos) (p := px) F O.o.room O.o.gd g1 hm hk (hkw ks (of_decide_eq_true h7)) (sEs args I _ X B h4 O) (sK kws I _ X B h8 O) g2 (star_any h5) hall hks O.x
      rw [← hp] at z
      exact z
    · cases h
  | .make C args, I, e, X, B, h, O => by
    unfold mE at h
    split at h
    · rename_i x px xs pos
      simp only [Bool.and_eq_true] at h
      obtain ⟨⟨⟨⟨⟨h1, h2⟩, h3⟩, h3'⟩, h4⟩, h5⟩ := h
      have e1 := of_decide_eq_true h1
      subst e1
      obtain ⟨g1, g2, _⟩ := gl_of O.o h2
      have hn := Option.isNone_iff_eq_none.mp h3
      obtain ⟨c, hc⟩ := Option.isSome_iff_exists.mp h3'
      obtain ⟨j, fa, fd, hj, hm, hM, hb, F⟩ := O.w.init _ _ hc
      have hp : (gamW W p q).par x = c.ps := by show (match W.T (x, none) with | some c => c.ps | none => _) = c.ps; rw [hn, hc]
      have z := le_make (pos := pos) (p := px) F hM (O.o.room.mono hj) O.o.gd g1 hm hb (sEs args I _ X B h4 O) g2 (star_any h5)
      rw [← hp] at z
      exact z
    · cases h
  | .meth m o args, I, e, X, B, h, O => by
    unfold mE at h
    split at h
    · simp only [Bool.and_eq_true] at h
      obtain ⟨⟨⟨⟨⟨⟨h1, h2⟩, h3⟩, h4⟩, h5⟩, h6⟩, h7⟩ := h
      have e1 := of_decide_eq_true h1
      subst e1
      exact le_meth (ok := fun C => (W.T (C, some _)).isSome = true) (g := fun C => p (C, some _)) (fun C hC => by
        obtain ⟨c, hc⟩ := Option.isSome_iff_exists.mp hC
        obtain ⟨fa, fd, hcl, hm, hb, F⟩ := O.w.meth _ _ _ hc
        exact ⟨fa, fd, c.ps, hcl, hm, hb, F⟩) O.o.room O.o.gd (sE o I _ X B h3 O) (sEs args I _ X B h4 O) (base_of h2) (star_any h5) (of_decide_eq_true h6) h7 O.x
    · cases h
  | .fld o f, I, e, X, B, h, O => by
    unfold mE at h
    split at h
    · simp only [Bool.and_eq_true] at h
      have e1 := of_decide_eq_true h.1.1
      subst e1
      exact le_fld (fl := W.fl) (fun C hC => O.w.fld C _ hC) (sE o I _ X B h.2 O) (base_of h.1.2)
    · cases h
  | .ix a b, I, e, X, B, h, O => by
    unfold mE at h
    split at h
    · simp only [Bool.and_eq_true] at h
      exact le_ix (by have := O.o.room.un; omega) (sE a I _ X B h.1.2 O) (sE b I _ X B h.2 O) (plainIx_of h.1.1)
    · cases h
  | .slc fz a lo hi, I, e, X, B, h, O => by
    unfold mE at h
    split at h
    · simp only [Bool.and_eq_true] at h
      exact le_slc (sE a I _ X B h.1.1 O) (sO lo I _ X B h.1.2 O) (sO hi I _ X B h.2 O)
    · cases h
  | .rev fz a, I, e, X, B, h, O => by
    unfold mE at h
    split at h
    · exact pe_rev (sE a I _ X B h O)
    · cases h
  | .fn b fz args, I, e, X, B, h, O => by
    unfold mE at h
    split at h
    · rename_i xn pn y ys pos
      simp only [Bool.and_eq_true] at h
      obtain ⟨⟨⟨h1, h2⟩, h3⟩, h4⟩ := h
      obtain ⟨g1, g2, g3⟩ := gl_of O.o h2
      obtain ⟨v, hv, hb, C⟩ := bf_call O.o.calm O.o.gd O.o.room b fz _ (of_decide_eq_true h1)
      have hm := O.w.bn _ hb
      have hs : nSt y = true ∧ nStL ys = true := by simpa [nStL] using h4
      have hn := of_decide_eq_true h1
      cases hv with
      | b n hbt =>
        rw [hn] at n
        cases n
        exact le_callB C g1 hm hbt (sEs args I _ X B h3 O) g3 g2 (star_cons hs.1) (any_back (star_any hs.2))
      | t n hbt =>
        rw [hn] at n
        cases n
        exact le_callTy C g1 hm hbt (sEs args I _ X B h3 O) g3 g2 (star_cons hs.1) (any_back (star_any hs.2))
    · cases h
  | .bm m o args, I, e, X, B, h, O => by
    unfold mE at h
    split at h
    · rename_i oe name apos xs pos
      simp only [Bool.and_eq_true] at h
      obtain ⟨⟨⟨⟨⟨⟨⟨h1, h2⟩, h3⟩, h4⟩, h5⟩, h6⟩, h7⟩, h8⟩ := h
      have hn := of_decide_eq_true h1
      have ho := sE o I _ X B h3 O
      have hst := star_any (env := X.env) h5
      have hl : xs.length < 29 := of_decide_eq_true h6
      cases xs with
      | nil =>
        have e0 : args = .nil := by
          cases args with
          | nil => rfl
          | cons a b => unfold mEs at h4; cases h4
          | star a b => unfold mEs at h4; cases h4
          | starD a b => unfold mEs at h4; cases h4
        subst e0
        cases m with
        | append => cases hn; exact le_bm0 F.plainAttrs_list F.slot_list_append F.type_list_append m_append lst_rcv ho (base_of h2) h7
        | extend => cases hn; exact le_bm0 F.plainAttrs_list F.slot_list_extend F.type_list_extend m_extend lst_rcv ho (base_of h2) h7
        | pop0 => cases hn; exact le_bm0 F.plainAttrs_list F.slot_list_pop F.type_list_pop m_pop0 lst_rcv ho (base_of h2) h7
        | pop1 => cases hn; exact le_bm0 F.plainAttrs_list F.slot_list_pop F.type_list_pop m_pop1 lst_rcv ho (base_of h2) h7
        | upper => cases hn; exact le_bm0 F.plainAttrs_str F.slot_str_upper F.type_str_upper m_upper str_rcv ho (base_of h2) h7
        | get2 => cases h8
        | setdefault => cases h8
        | split => cases h8
        | join => cases h8
        | _ => cases hn
      | cons y ys =>
        have hs : nSt y = true ∧ nStL ys = true := by simpa [nStL] using h5
        have hfew : ((backTo pos (starEach (y :: ys) X.env)).all (fun x => !x.1) && (backToKw pos (keywordEach [] X.env)).all (fun x => x.1.isSome) && decide ((y :: ys).length + ([] : List Keyword).length + (if ([] : List Keyword).isEmpty then 0 else 1) < 30)) = true := by
          have h1 : (backTo pos (starEach (y :: ys) X.env)).all (fun x => !x.1) = true := by
            rw [← List.not_any_eq_all_not, any_back hst]; rfl
          rw [h1]
          show (true && true && decide ((y :: ys).length + 0 + 0 < 30)) = true
          simp only [Bool.and_true, Bool.true_and, decide_eq_true_eq]
          omega
        have ha := sEs args I _ X B h4 O
        cases m with
        | append => cases hn; exact le_bm F.plainAttrs_list F.slot_list_append F.type_list_append m_append lst_rcv ho ha (base_of h2) hfew h7 (star_cons hs.1) (any_back (star_any hs.2))
        | extend => cases hn; exact le_bm F.plainAttrs_list F.slot_list_extend F.type_list_extend m_extend lst_rcv ho ha (base_of h2) hfew h7 (star_cons hs.1) (any_back (star_any hs.2))
        | pop0 => cases hn; exact le_bm F.plainAttrs_list F.slot_list_pop F.type_list_pop m_pop0 lst_rcv ho ha (base_of h2) hfew h7 (star_cons hs.1) (any_back (star_any hs.2))
        | pop1 => cases hn; exact le_bm F.plainAttrs_list F.slot_list_pop F.type_list_pop m_pop1 lst_rcv ho ha (base_of h2) hfew h7 (star_cons hs.1) (any_back (star_any hs.2))
        | get2 => cases hn; exact le_bmT rcv_dct F.plainAttrs_dict F.slot_dict_get F.type_dict_get (m_get2 (by have := O.o.room.un; omega)) ho ha (base_of h2) hfew h7 (star_cons hs.1) (any_back (star_any hs.2))
        | setdefault => cases hn; exact le_bmT rcv_dct F.plainAttrs_dict F.slot_dict_setdefault F.type_dict_setdefault (m_setd (by have := O.o.room.un; omega)) ho ha (base_of h2) hfew h7 (star_cons hs.1) (any_back (star_any hs.2))
        | upper => cases hn; exact le_bm F.plainAttrs_str F.slot_str_upper F.type_str_upper m_upper str_rcv ho ha (base_of h2) hfew h7 (star_cons hs.1) (any_back (star_any hs.2))
        | split => cases hn; exact le_bm F.plainAttrs_str F.slot_str_split F.type_str_split m_split str_rcv ho ha (base_of h2) hfew h7 (star_cons hs.1) (any_back (star_any hs.2))
        | join => cases hn; exact le_bm F.plainAttrs_str F.slot_str_join F.type_str_join m_join str_rcv ho ha (base_of h2) hfew h7 (star_cons hs.1) (any_back (star_any hs.2))
        | _ => cases hn
    · cases h
  | .frz a, I, e, X, B, h, O => by
    unfold mE at h
    exact le_frz (sE a I e X B h O)
  | .frzd a, I, e, X, B, h, O => by
    unfold mE at h
    exact le_frzd (sE a I e X B h O)
  | .lenset a, I, e, X, B, h, O => by
    unfold mE at h
    split at h
    · simp only [Bool.and_eq_true] at h
      obtain ⟨⟨⟨⟨⟨h1, h2⟩, h3⟩, h4⟩, h5⟩, h6⟩ := h
      have e1 := of_decide_eq_true h1
      have e2 := of_decide_eq_true h2
      subst e1 e2
      exact le_lenset O.o.calm (gl_of O.o h3).1 (O.w.bn _ (by decide)) (gl_of O.o h4).1 (O.w.bn _ (by decide)) (sE a I _ X B h5 O) (star_cons (by simpa [nStL] using h6))
    · cases h
  | .sortset fz a, I, e, X, B, h, O => by
    unfold mE at h
    split at h
    · simp only [Bool.and_eq_true] at h
      obtain ⟨⟨⟨⟨⟨h1, h2⟩, h3⟩, h4⟩, h5⟩, h6⟩ := h
      have e1 := of_decide_eq_true h1
      have e2 := of_decide_eq_true h2
      subst e1 e2
      exact le_sortset O.o.calm (gl_of O.o h3).1 (O.w.bn _ (by decide)) (gl_of O.o h4).1 (O.w.bn _ (by decide)) (sE a I _ X B h5 O) (star_cons (by simpa [nStL] using h6))
    · cases h
  | .nnew, I, e, X, B, h, O => by
    unfold mE at h
    split at h
    · rename_i pos
      have z := le_nnew (X := X) (B := B.1) (pos := pos)
      rw [← O.d] at z
      exact z
    · cases h
  | .nm m o args, I, e, X, B, h, O => by
    unfold mE at h
    split at h
    · rename_i oe name apos y ys pos
      simp only [Bool.and_eq_true] at h
      obtain ⟨⟨⟨⟨⟨⟨h1, h2⟩, h3⟩, h4⟩, h5⟩, h6⟩, h7⟩ := h
      have hn := of_decide_eq_true h1
      have ho := sE o I _ X B h3 O
      have hst := star_any (env := X.env) h5
      have hl : (y :: ys).length < 29 := of_decide_eq_true h6
      have hs : nSt y = true ∧ nStL ys = true := by simpa [nStL] using h5
      have hfew : ((backTo pos (starEach (y :: ys) X.env)).all (fun x => !x.1) && (backToKw pos (keywordEach [] X.env)).all (fun x => x.1.isSome) && decide ((y :: ys).length + ([] : List Keyword).length + (if ([] : List Keyword).isEmpty then 0 else 1) < 30)) = true := by
        have h1 : (backTo pos (starEach (y :: ys) X.env)).all (fun x => !x.1) = true := by
          rw [← List.not_any_eq_all_not, any_back hst]; rfl
        rw [h1]
        show (true && true && decide ((y :: ys).length + 0 + 0 < 30)) = true
        simp only [Bool.and_true, Bool.true_and, decide_eq_true_eq]
        omega
      have ha := sEs args I _ X B h4 O
      have hu : X.A.units + 65 < cLine := by have := O.o.room.un; omega
      subst hn
      cases m with
      | get2 =>
        have z := le_bmT (pos := pos) (apos := apos) rcv_dn F.plainAttrs_dict F.slot_dict_get F.type_dict_get (mn_get hu) ho ha (base_of h2) hfew h7 (star_cons hs.1) (any_back (star_any hs.2))
        rw [← O.d] at z
        exact z
      | setd2 =>
        have z := le_bmT (pos := pos) (apos := apos) rcv_dn F.plainAttrs_dict F.slot_dict_setdefault F.type_dict_setdefault (mn_setd hu) ho ha (base_of h2) hfew h7 (star_cons hs.1) (any_back (star_any hs.2))
        rw [← O.d] at z
        exact z
    · cases h
  | .nix a b, I, e, X, B, h, O => by
    unfold mE at h
    split at h
    · rename_i x i pos
      simp only [Bool.and_eq_true] at h
      have z := le_ixG (pos := pos) (dn_ix (by have := O.o.room.un; omega)) (sE a I _ X B h.1.2 O) (sE b I _ X B h.2 O) (plainIx_of h.1.1)
      rw [← O.d] at z
      exact z
    · cases h
  | .nlen a, I, e, X, B, h, O => by
    unfold mE at h
    split at h
    · rename_i x px y pos
      simp only [Bool.and_eq_true] at h
      obtain ⟨⟨⟨h1, h2⟩, h3⟩, h4⟩ := h
      have e1 := of_decide_eq_true h1
      subst e1
      obtain ⟨g1, g2, g3⟩ := gl_of O.o h2
      have z := le_callB (p := px) (pos := pos) (cn_len (X := X)) g1 (O.w.bn _ (by decide)) boot_len (la_cons (sE a I _ X B h3 O) la_nil (star_cons h4)) g3 g2 (star_cons h4) rfl
      rw [← O.d] at z
      exact z
    · cases h
  | .nlist fz a, I, e, X, B, h, O => by
    unfold mE at h
    split at h
    · rename_i x px y pos
      simp only [Bool.and_eq_true] at h
      obtain ⟨⟨⟨h1, h2⟩, h3⟩, h4⟩ := h
      have e1 := of_decide_eq_true h1
      subst e1
      obtain ⟨g1, g2, g3⟩ := gl_of O.o h2
      have z := le_callTy (p := px) (pos := pos) (cn_list (X := X) (fz := fz) O.o.calm) g1 (O.w.bn _ (by decide)) PyProof.Rows.boot_list (la_cons (sE a I _ X B h3 O) la_nil (star_cons h4)) g3 g2 (star_cons h4) rfl
      rw [← O.d] at z
      exact z
    · cases h
  | .ndc kk v g it own, I, e, X, B, h, O => by
    unfold mE at h
    split at h
    · rename_i y x tg iter scope pos
      simp only [Bool.and_eq_true] at h
      obtain ⟨⟨⟨⟨⟨⟨⟨h1, h2⟩, h3⟩, h4⟩, h5⟩, h6⟩, h7⟩, h8⟩ := h
      have hb : BlkOk X.N X.env.scope scope own := by rw [O.o.N, O.o.sc]; exact blkOk_by h3
      have z := le_ndc (pos := pos) O.o.calm (by have := O.o.room.un; omega) (by rw [O.o.N]; exact O.o.nd) (sI it I g.isTup iter tg X B h1 (fun ht => by
        split at h5
        · exact ⟨_, _, _, rfl⟩
        · rw [ht] at h5; cases h5) O) hb (fun i hi => of_decide_eq_true (List.all_eq_true.mp h4 i hi)) (fun s H C cl fp => sG g (I.blk scope) tg _ (B.1, EF0) h6 (O.blk scope s H C cl fp)) (fun s H C cl fp => sE kk (I.blk scope) y _ (B.1, EF0) h7 (O.blk scope s H C cl fp)) (fun s H C cl fp => sE v (I.blk scope) x _ (B.1, EF0) h8 (O.blk scope s H C cl fp)) (fold_of h2)
      rw [← O.d] at z
      exact z
    · cases h
theorem sO : ∀ (c : CO) (I : Inf) (e : Option Expr) (X : Cx) (B : Bs × ED), mO W c I e = true → OkW W p q k X I B.1 B.2 → PO X e (LO X.K B.1 (wpO (gamW W p q) B.2 c))
  | .no, I, e, X, B, h, O => by
    unfold mO at h
    have e1 := Option.isNone_iff_eq_none.mp h
    subst e1
    exact lo_no
  | .yes a, I, e, X, B, h, O => by
    unfold mO at h
    split at h
    · exact lo_yes (sE a I _ X B h O)
    · cases h
theorem sEs : ∀ (c : CEs) (I : Inf) (es : List Expr) (X : Cx) (B : Bs × ED), mEs W c I es = true → OkW W p q k X I B.1 B.2 → PA X es (LA X.K B.1 (wpEs (gamW W p q) B.2 c))
  | .nil, I, es, X, B, h, O => by
    unfold mEs at h
    have e1 := List.isEmpty_iff.mp h
    subst e1
    exact la_nil
  | .cons a as, I, es, X, B, h, O => by
    unfold mEs at h
    split at h
    · simp only [Bool.and_eq_true] at h
      exact la_cons (sE a I _ X B h.1.2 O) (sEs as I _ X B h.2 O) (star_cons h.1.1)
    · cases h
  | .star a as, I, es, X, B, h, O => by
    unfold mEs at h
    split at h
    · simp only [Bool.and_eq_true] at h
      exact la_star (sE a I _ X B h.1 O) (sEs as I _ X B h.2 O)
    · cases h
  | .starD a as, I, es, X, B, h, O => by
    unfold mEs at h
    split at h
    · simp only [Bool.and_eq_true] at h
      exact la_starD O.o.room.hd (sE a I _ X B h.1 O) (sEs as I _ X B h.2 O)
    · cases h
theorem sD : ∀ (c : CEs) (ks : List Str) (I : Inf) (l : List (Option Expr)) (m : List Expr) (X : Cx) (B : Bs × ED), mD W c ks I l m = true → OkW W p q k X I B.1 B.2 → DsOk X B.1 ks l m (wpEs (gamW W p q) B.2 c)
  | .nil, ks, I, l, m, X, B, h, O => by
    unfold mD at h
    simp only [Bool.and_eq_true, List.isEmpty_iff] at h
    obtain ⟨⟨rfl, rfl⟩, rfl⟩ := h
    exact ds_nil
  | .cons a as, ks, I, l, m, X, B, h, O => by
    unfold mD at h
    split at h
    · simp only [Bool.and_eq_true] at h
      have e1 := of_decide_eq_true h.1.1
      subst e1
      exact ds_cons (sE a I _ X B h.1.2 O) (sD as _ I _ _ X B h.2 O)
    · cases h
  | .star a as, ks, I, l, m, X, B, h, O => by unfold mD at h; cases h
  | .starD a as, ks, I, l, m, X, B, h, O => by unfold mD at h; cases h
theorem sK : ∀ (c : CEs) (I : Inf) (es : List Keyword) (X : Cx) (B : Bs × ED), mK W c I es = true → OkW W p q k X I B.1 B.2 → PK X es (LA X.K B.1 (wpEs (gamW W p q) B.2 c))
  | .nil, I, es, X, B, h, O => by
    unfold mK at h
    have e1 := List.isEmpty_iff.mp h
    subst e1
    exact lk_nil
  | .cons a as, I, es, X, B, h, O => by
    unfold mK at h
    split at h
    · simp only [Bool.and_eq_true] at h
      exact lk_cons (sE a I _ X B h.1 O) (sK as I _ X B h.2 O)
    · cases h
  | .star a as, I, es, X, B, h, O => by
    unfold mK at h
    cases h
  | .starD a as, I, es, X, B, h, O => by
    unfold mK at h
    cases h
theorem sT : ∀ (c : CT) (v : Bool) (I : Inf) (e : Expr) (X : Cx) (B : Bs × ED), mT W c v I e = true → OkW W p q k X I B.1 B.2 → TV X B.1 v e (wpT (gamW W p q) B.2 c)
  | .val a, v, I, e, X, B, h, O => by
    unfold mT at h
    simp only [Bool.and_eq_true] at h
    have ha := sE a I e X B h.1 O
    cases v with
    | true => exact lv_valE ha
    | false => exact lt_valE ha (true_of (by simpa using h.2))
  | .tru a, v, I, e, X, B, h, O => by
    unfold mT at h
    simp only [Bool.and_eq_true] at h
    cases v with
    | true => cases h.1.1
    | false => exact lt_tru (sE a I e X B h.1.2 O) (true_of h.2)
  | .cmp o a b, v, I, e, X, B, h, O => by
    unfold mT at h
    split at h
    · simp only [Bool.and_eq_true] at h
      have e1 := of_decide_eq_true h.1.1.1
      subst e1
      have hu : X.A.units + 65 < cLine := by have := O.o.room.un; omega
      cases v with
      | true => exact le_cmp hu (sE a I _ X B h.1.1.2 O) (sE b I _ X B h.1.2 O) (mark_of h.2)
      | false => exact lt_cmp hu (sE a I _ X B h.1.1.2 O) (sE b I _ X B h.1.2 O) (mark_of h.2)
    · cases h
  | .chain o o' a b c, v, I, e, X, B, h, O => by
    unfold mT at h
    split at h
    · simp only [Bool.and_eq_true] at h
      obtain ⟨⟨⟨⟨⟨h1, h2⟩, h3⟩, h4⟩, h5⟩, h6⟩ := h
      have e1 := of_decide_eq_true h1
      have e2 := of_decide_eq_true h2
      subst e1 e2
      have hu : X.A.units + 65 < cLine := by have := O.o.room.un; omega
      cases v with
      | true => exact le_chain hu (sE a I _ X B h3 O) (sE b I _ X B h4 O) (sE c I _ X B h5 O) (marks_of h6)
      | false => exact lt_chain hu (sE a I _ X B h3 O) (sE b I _ X B h4 O) (sE c I _ X B h5 O) (marks_of h6)
    · cases h
  | .and a b, v, I, e, X, B, h, O => by
    unfold mT at h
    split at h
    · simp only [Bool.and_eq_true] at h
      have ha := sT a v I _ X B h.1 O
      have hb := sT b v I _ X B h.2 O
      cases v with
      | true => exact lv_and ha (lv_one hb)
      | false => exact pt_pw (lt_and ha (pw_and1 hb))
    · simp only [Bool.and_eq_true] at h
      have ha := sT a v I _ X B h.1 O
      have hb := sT b v I _ X B h.2 O
      cases v with
      | true => exact lv_and ha hb
      | false => exact pt_pw (lt_and ha (pw_pt hb))
    · cases h
  | .or a b, v, I, e, X, B, h, O => by
    unfold mT at h
    split at h
    · simp only [Bool.and_eq_true] at h
      have ha := sT a v I _ X B h.1 O
      have hb := sT b v I _ X B h.2 O
      cases v with
      | true => exact lv_or ha (lv_one hb)
      | false => exact pt_pw (lt_or ha (pw_or1 hb))
    · simp only [Bool.and_eq_true] at h
      have ha := sT a v I _ X B h.1 O
      have hb := sT b v I _ X B h.2 O
      cases v with
      | true => exact lv_or ha hb
      | false => exact pt_pw (lt_or ha (pw_pt hb))
    · cases h
  | .not a, v, I, e, X, B, h, O => by
    unfold mT at h
    split at h
    · have ha := sT a v I _ X B h O
      cases v with
      | true => exact lv_not ha
      | false => exact lt_not ha
    · cases h
  | .isi a ts, v, I, e, X, B, h, O => by
    unfold mT at h
    split at h
    · rename_i f pf x t pos
      simp only [Bool.and_eq_true] at h
      obtain ⟨⟨⟨⟨⟨h1, h2⟩, h3⟩, h4⟩, h5⟩, h6⟩ := h
      have e1 := of_decide_eq_true h1
      subst e1
      have z := le_isi (pf := pf) (pos := pos) O.o O.w h2 (sE a I _ X B h3 O) h4 h5 h6
      cases v with
      | true => exact z
      | false => exact lt_val z (true_of rfl)
    · cases h
  | .nin neg a b, v, I, e, X, B, h, O => by
    unfold mT at h
    split at h
    · rename_i l op r pos
      simp only [Bool.and_eq_true] at h
      have e1 := of_decide_eq_true h.1.1.1
      subst e1
      have hu : X.A.units + 65 < cLine := by have := O.o.room.un; omega
      have hm : behindInMarks (if neg then CmpOp.NotIn else CmpOp.In) r = false := mark_of h.2
      cases v with
      | true =>
        have z := le_cmpG (pos := pos) (dn_in neg hu) (sE a I _ X B h.1.1.2 O) (sE b I _ X B h.1.2 O) hm
        rw [← O.d] at z
        exact z
      | false =>
        have z := lt_cmpG (pos := pos) (rd := fun x y M Q => rdNin X.w x y M fun c M' => Q (if neg then !c else c) M') (dn_in neg hu) (sE a I _ X B h.1.1.2 O) (sE b I _ X B h.1.2 O) hm
        rw [← O.d] at z
        exact z
    · cases h
  | .xis a ds tab, v, I, e, X, B, h, O => by
    unfold mT at h
    split at h
    · rename_i f pf x t pos
      simp only [Bool.and_eq_true] at h
      obtain ⟨⟨⟨⟨⟨h1, h2⟩, h3⟩, h4⟩, h5⟩, h6⟩ := h
      have e1 := of_decide_eq_true h1
      subst e1
      have z := le_xiss (pf := pf) (pos := pos) O.o O.w h2 (sE a I _ X B h3 O) h4 h5 h6
      cases v with
      | true => exact z
      | false => exact lt_val z (true_of rfl)
    · cases h
theorem sTs : ∀ (c : CTs) (I : Inf) (es : List Expr) (X : Cx) (B : Bs × ED), mTs W c I es = true → OkW W p q k X I B.1 B.2 → PTs X es (LT X.K B.1 (wpTs (gamW W p q) B.2 c))
  | .nil, I, es, X, B, h, O => by
    unfold mTs at h
    have e1 := List.isEmpty_iff.mp h
    subst e1
    exact ⟨fun pins s σ H Q I ⟨σd, M, Qd, a, t, k⟩ => pts_nil.run pins s σ H Q I (k true M H .refl a.m t)⟩
  | .cons t ts, I, es, X, B, h, O => by
    unfold mTs at h
    split at h
    · have ht := sT t false I _ X B h O
      refine ⟨fun pins s σ H Q I ⟨σd, M, Qd, a, tt, k⟩ => (pts_one ht).run pins s σ H Q I ⟨σd, M, Qd, a, ?_, k⟩⟩
      have e : (fun b M1 => Bif b (wpTs (gamW W p q) B.2 .nil σd M1 Qd) (Qd false M1)) = Qd := by
        funext b M1
        cases b with
        | true => exact propext (Iff.intro (fun h => h.1 rfl) (fun h => And.intro (fun _ => h) (fun z => nomatch z)))
        | false => exact propext (Iff.intro (fun h => h.2 rfl) (fun h => And.intro (fun z => nomatch z) (fun _ => h)))
      have tt' : wpT (gamW W p q) B.2 t σd M (fun b M1 => Bif b (wpTs (gamW W p q) B.2 .nil σd M1 Qd) (Qd false M1)) := tt
      rw [e] at tt'
      exact tt'
    · cases h
theorem sI : ∀ (c : CI) (I : Inf) (t : Bool) (e tg : Expr) (X : Cx) (B : Bs × ED), mI W c I t e = true → (t = true → ∃ es k p, tg = .Tuple es k p) → OkW W p q k X I B.1 B.2 → PI X tg e (LI X.K B.1 (wpI (gamW W p q) B.2 c))
  | .seq a, I, t, e, tg, X, B, h, ht, O => by
    unfold mI at h
    exact li_seq (sE a I e X B h O)
  | .range1 a, I, t, e, tg, X, B, h, ht, O => by
    unfold mI at h
    split at h
    · simp only [Bool.and_eq_true] at h
      obtain ⟨⟨⟨h1, h2⟩, h3⟩, h4⟩ := h
      have e1 := of_decide_eq_true h1
      subst e1
      exact li_range1 (gl_of O.o h2).1 (O.w.bn _ (by decide)) (sE a I _ X B h3 O) (star_cons h4)
    · cases h
  | .range2 a b, I, t, e, tg, X, B, h, ht, O => by
    unfold mI at h
    split at h
    · simp only [Bool.and_eq_true] at h
      obtain ⟨⟨⟨⟨⟨h1, h2⟩, h3⟩, h4⟩, h5⟩, h6⟩ := h
      have e1 := of_decide_eq_true h1
      subst e1
      exact li_range2 (gl_of O.o h2).1 (O.w.bn _ (by decide)) (sE a I _ X B h3 O) (sE b I _ X B h4 O) ((star_cons h5).trans (by rw [star_cons h6]; rfl)) (star_cons h6)
    · cases h
  | .enum a, I, t, e, tg, X, B, h, ht, O => by
    unfold mI at h
    rw [Bool.and_eq_true] at h
    obtain ⟨es, kk, pp, et⟩ := ht h.1
    subst et
    have h := h.2
    split at h
    · simp only [Bool.and_eq_true] at h
      obtain ⟨⟨⟨h1, h2⟩, h3⟩, h4⟩ := h
      have e1 := of_decide_eq_true h1
      subst e1
      exact li_enumA (gl_of O.o h2).1 (O.w.bn _ (by decide)) (sE a I _ X B h3 O) (star_cons h4)
    · cases h
  | .zip a b, I, t, e, tg, X, B, h, ht, O => by
    unfold mI at h
    rw [Bool.and_eq_true] at h
    obtain ⟨es, kk, pp, et⟩ := ht h.1
    subst et
    have h := h.2
    split at h
    · simp only [Bool.and_eq_true] at h
      obtain ⟨⟨⟨⟨⟨h1, h2⟩, h3⟩, h4⟩, h5⟩, h6⟩ := h
      have e1 := of_decide_eq_true h1
      subst e1
      exact li_zipA (gl_of O.o h2).1 (O.w.bn _ (by decide)) (sE a I _ X B h3 O) (sE b I _ X B h4 O) (star_cons h5) (star_cons h6)
    · cases h
  | .items a, I, t, e, tg, X, B, h, ht, O => by unfold mI at h; cases h
  | .values a, I, t, e, tg, X, B, h, ht, O => by unfold mI at h; cases h
theorem sG : ∀ (c : CG) (I : Inf) (e : Expr) (X : Cx) (B : Bs × ED), mG W c I e = true → OkW W p q k X I B.1 B.2 → PG X e (LGw X.K B.1 (gSlots c) (wpG (gamW W p q) B.2 c))
  | .name i, I, e, X, B, h, O => by
    unfold mG at h
    split at h
    · obtain ⟨h1, h2, h3⟩ := sto_of O.o h
      exact lg_name (pg_name (by rw [O.o.N]; exact O.o.nd) h1 h2 h3)
    · cases h
  | .tup gs, I, e, X, B, h, O => by
    unfold mG at h
    split at h
    · rename_i es kk pos
      rw [Bool.and_eq_true] at h
      obtain ⟨z, hl⟩ := sGs gs I es X B h.1 O
      exact lg_tup O.o.calm z (asg_len.trans hl) (asg_star h.2)
    · cases h
  | .lup gs, I, e, X, B, h, O => by
    unfold mG at h
    split at h
    · rename_i es kk pos
      rw [Bool.and_eq_true] at h
      obtain ⟨z, hl⟩ := sGs gs I es X B h.1 O
      exact lg_lup O.o.calm z (asg_len.trans hl) (asg_star h.2)
    · cases h
  | .sub o i, I, e, X, B, h, O => by
    unfold mG at h
    split at h
    · simp only [Bool.and_eq_true] at h
      exact lg_sub h.1.1 (by have := O.o.room.un; omega) (sE o I _ X B h.1.2 O) (sE i I _ X B h.2 O)
    · cases h
  | .nsub o i, I, e, X, B, h, O => by
    unfold mG at h
    split at h
    · rename_i x y pos
      simp only [Bool.and_eq_true] at h
      have z := lg_nsub (pos := pos) h.1.1 (by have := O.o.room.un; omega) (sE o I _ X B h.1.2 O) (sE i I _ X B h.2 O)
      rw [← O.d] at z
      exact z
    · cases h
theorem sGs : ∀ (c : CGs) (I : Inf) (es : List Expr) (X : Cx) (B : Bs × ED), mGs W c I es = true → OkW W p q k X I B.1 B.2 → PGs X es (LGsw X.K B.1 (gSlots.gSlotsL c) (wpGs (gamW W p q) B.2 c)) ∧ es.length = c.len
  | .nil, I, es, X, B, h, O => by
    unfold mGs at h
    have e1 := List.isEmpty_iff.mp h
    subst e1
    exact ⟨lgs_nil, rfl⟩
  | .cons g gs, I, es, X, B, h, O => by
    unfold mGs at h
    split at h
    · simp only [Bool.and_eq_true] at h
      obtain ⟨z, hl⟩ := sGs gs I _ X B h.2 O
      exact ⟨lgs_cons (sG g I _ X B h.1.2 O) z (by rw [asg_each h.1.1]; rfl), by rw [List.length_cons, hl]; rfl⟩
    · cases h
end
end
end RX
set_option Elab.async false
set_option linter.all false
set_option maxRecDepth 100000
set_option maxHeartbeats 4000000
/-! RX13: statements; the whole table. -/
namespace RX
open PySem PySem.Spec PyProof.Rows L2

theorem par_of {env : Env} {I : Inf} {i j : Nat} {x y : Str} {px py pt pt2 : Pos} {kt k2} {a b : Expr} (hk : env.scope.kind = .function) (hs : env.scope = I.sc) (h : parB I i j x y px py a b = true) :
    swappedStores [.Tuple [.Name x px, .Name y py] kt pt] (.Tuple [a, b] k2 pt2) env = pure (some [x, y]) := by
  unfold parB at h
  simp only [Bool.and_eq_true, Bool.not_eq_true'] at h
  obtain ⟨⟨⟨⟨⟨⟨⟨⟨⟨⟨h1, h2⟩, h3⟩, h4⟩, h5⟩, h6⟩, h7⟩, h8⟩, h9⟩, h10⟩, h11⟩ := h
  have hb : env.blockKind = .function := by unfold Env.blockKind; rw [hk]; rfl
  have kx : env.kindOf x = some .local := by
    show env.scope.names.lookup x = _
    rw [hs]; exact of_decide_eq_true h4
  have ky : env.kindOf y = some .local := by
    show env.scope.names.lookup y = _
    rw [hs]; exact of_decide_eq_true h5
  have hxy : x ≠ y := of_decide_eq_true h6
  have h7' : (py.line == px.line) = true := by rw [beq_iff_eq] at h7 ⊢; exact h7.symm
  have hst : ([a, b].any fun | .Starred .. => true | _ => false) = false := by
    cases a <;> cases b <;> first | rfl | exact absurd h8 Bool.false_ne_true | exact absurd h9 Bool.false_ne_true
  unfold swappedStores
  simp only [hb, List.length_cons, List.length_nil]
  rw [if_neg (by decide), if_neg (by rw [Bool.not_eq_true]; exact hst)]
  simp only [List.head?_cons, Option.map_some, Option.getD_some, Expr.pos, List.filterMap_cons, List.filterMap_nil, kx, ky, h7', beq_self_eq_true, Bool.and_self, if_true, List.length_cons, List.length_nil]
  have he : [x, y].eraseDups = [x, y] := by
    rw [List.eraseDups_cons]
    have : (List.filter (fun b => !(b == x)) [y]) = [y] := by
      have hb : (y == x) = false := beq_eq_false_iff_ne.mpr fun e => hxy e.symm
      simp [hb]
    rw [this]
    simp [List.eraseDups_cons]
  rw [he]
  simp only [List.length_cons, List.length_nil, bne_self_eq_false, Bool.or_self, Bool.false_eq_true, if_false]
  rw [h10, h11]
  rfl
theorem fm_lt {α β : Type} {f : α → Option β} : ∀ {l : List α}, (∃ x ∈ l, f x = none) → (l.filterMap f).length < l.length
  | [], h => by obtain ⟨x, hx, _⟩ := h; cases hx
  | a :: l, h => by
    have le := List.length_filterMap_le f l
    rw [List.filterMap_cons]
    cases c : f a with
    | none => simp only [List.length_cons]; omega
    | some b =>
      have := fm_lt (l := l) (f := f) (by
        obtain ⟨x, hx, h2⟩ := h
        rcases List.mem_cons.mp hx with e | hx
        · rw [e, c] at h2; cases h2
        · exact ⟨x, hx, h2⟩)
      simp only [List.length_cons]
      omega
/-- names that are not plain: no stores in turn -/
theorem stores_cell {env : Env} {I : Inf} {ts : List Expr} {kt : _} {pt : Pos} {e : Expr} (hs : env.scope = I.sc) (h : ts.any (cellB I) = true) : swappedStores [.Tuple ts kt pt] e env = pure none := by
  obtain ⟨x, hx, hc⟩ := List.any_eq_true.mp h
  unfold swappedStores
  cases e <;> try rfl
  dsimp only
  split
  · rfl
  split
  · rfl
  rw [if_pos]
  rw [Bool.or_eq_true, bne_iff_ne]
  left
  refine Nat.ne_of_lt (fm_lt ⟨x, hx, ?_⟩)
  unfold cellB at hc
  split at hc
  · rename_i y py
    have : ¬ I.sc.names.lookup y = some .local := by simpa using hc
    have ky : env.kindOf y ≠ some .local := by
      show env.scope.names.lookup y ≠ _
      rw [hs]
      exact this
    dsimp only
    rw [if_neg]
    simp [ky]
  · cases hc
section
variable {W : Wd} {p q : FId → CallT} {k : Nat}
theorem and_fun {A : Prop} (hA : A) (F : D → MM → Prop) : (fun d M1 => A ∧ F d M1) = F := by
  funext d M1
  exact propext (and_iff_right hA)
theorem and_funL {A : Prop} (hA : A) (F : List D → MM → Prop) : (fun d M1 => A ∧ F d M1) = F := by
  funext d M1
  exact propext (and_iff_right hA)
theorem le_conv {X : Cx} {B : Bs} {e : Expr} {t t' : DE} (h : PE X e (LE X.K B t)) (c : ∀ σ M Q, t' σ M Q → t σ M Q) : PE X e (LE X.K B t') := h.imp fun σ H Q ⟨σd, M, Qd, a, ht, k⟩ => ⟨σd, M, Qd, a, c _ _ _ ht, k⟩
theorem la_conv {X : Cx} {B : Bs} {e : List Expr} {t t' : DA} (h : PA X e (LA X.K B t)) (c : ∀ σ M Q, t' σ M Q → t σ M Q) : PA X e (LA X.K B t') := h.imp fun σ H Q ⟨σd, M, Qd, a, ht, k⟩ => ⟨σd, M, Qd, a, c _ _ _ ht, k⟩
/-- the suite that holds the exception -/
structure SuOk (W : Wd) (p q : FId → CallT) (k : Nat) (X : Cx) (I : Inf) (B0 : Bs) (E : ED) (hot : List (Str × List (Str × HV))) (subs all : List Str) (i : Nat) (B : Bs) (a : Addr) (oe : Obj) (pn : List (Addr × Obj)) (C f : Str) (y : D) (dx : Addr) (v : V) : Prop where
  O : OkW W p q k X I B0 E
  hh : ∀ g tab, (g, tab) ∈ hot → (g, tab) ∈ W.xt.hot
  hC : C ∈ subs
  h : Hot (X.suite a ((a, oe) :: pn)) B a oe C f y dx v
section
variable {X : Cx} {I : Inf} {B0 B : Bs} {E : ED} {hot : List (Str × List (Str × HV))} {subs all : List Str} {i : Nat} {a : Addr} {oe : Obj} {pn : List (Addr × Obj)} {C f : Str} {y : D} {dx : Addr} {v : V}
theorem sh_isi (S : SuOk W p q k X I B0 E hot subs all i B a oe pn C f y dx v) {n x : Str} {pf np pos : Pos} {t : Expr} {d : XT} {tab : List (Str × Bool)} (h1 : x = "isinstance") (h2 : glB I x = true) (h3 : visB I i n = true) (h4 : nSt t = true) (h5 : mXTs W.xt I [d] tab t = true) :
    PE (X.suite a ((a, oe) :: pn)) (.Call (.Name x pf) [.Name n np, t] [] pos) (LE X.K B (VT fun σ M Q => σ[i]? = some (some (.ref a)) ∧ ∃ b, tab.lookup C = some b ∧ Q b M)) := by
  subst h1
  obtain ⟨g1, g2, _⟩ := gl_of S.O.o h2
  obtain ⟨v1, v2, v3, v4⟩ := vis_of S.O.o h3
  cases e : tab.lookup C with
  | none => exact le_conv (X := X.suite a ((a, oe) :: pn)) le_never fun σ M Q ⟨_, b, e2, _⟩ => by cases e2
  | some b =>
    unfold mXTs at h5
    dsimp only at h5
    simp only [Bool.and_eq_true] at h5
    have fact := S.O.w.xt.is C d b (of_decide_eq_true (List.all_eq_true.mp h5.2 (C, b) (lookup_mem e)))
    have hd : PE (X.suite a ((a, oe) :: pn)) t (tC (xtC X.K d)) := by
      have h6 := h5.1.1
      have hm := fact.2.2
      unfold mXT at h6
      split at h6
      · rename_i D z zp
        rw [Bool.and_eq_true] at h6
        have e1 := of_decide_eq_true h6.1
        subst e1
        obtain ⟨k1, k2, _⟩ := gl_of S.O.o h6.2
        exact pe_glob (X := X.suite a ((a, oe) :: pn)) k1 hm rfl k2
      · rename_i m z zp
        simp only [Bool.and_eq_true] at h6
        have e1 := of_decide_eq_true h6.1.1
        subst e1
        obtain ⟨k1, k2, k3⟩ := gl_of S.O.o h6.1.2
        have hn := of_decide_eq_true h6.2
        refine pe_bltn (X := X.suite a ((a, oe) :: pn)) k1 hm ?_ rfl k3 k2
        simp only [xbNames, List.mem_cons, List.not_mem_nil, or_false] at hn
        rcases hn with rfl | rfl | rfl | rfl | rfl | rfl | rfl <;> decide +kernel
      · cases h6
    refine le_conv (X := X.suite a ((a, oe) :: pn)) (le_hisi (B := B) S.h fact.2.1 xt_rel g1 (S.O.w.bn _ (by decide)) (pe_var (X := X.suite a ((a, oe) :: pn)) v1 v2 v3 v4) hd (star_cons rfl) (star_cons h4)) fun σ M Q ⟨h1, b', e2, q⟩ => ⟨h1, ?_⟩
    cases e2
    exact q
theorem su_un (S : SuOk W p q k X I B0 E hot subs all i B a oe pn C f y dx v) : (X.suite a ((a, oe) :: pn)).A.units + 70 < cLine := by
  have h1 := S.O.o.room.un
  have e : (X.suite a ((a, oe) :: pn)).A.units = X.A.units := rfl
  omega
theorem sh_call (S : SuOk W p q k X I B0 E hot subs all i B a oe pn C f y dx v) {g x n : Str} {xp np pos : Pos} (h1 : x = g) (h2 : glB I x = true) (h3 : visB I i n = true) (h4 : (hot.lookup g).isSome = true) :
    PE (X.suite a ((a, oe) :: pn)) (.Call (.Name x xp) [.Name n np] [] pos) (LE X.K B fun σ M Q => σ[i]? = some (some (.ref a)) ∧ wpH hot C f y (.hcall g) (σ.set i none) M Q) := by
  subst h1
  obtain ⟨g1, g2, g3⟩ := gl_of S.O.o h2
  obtain ⟨v1, v2, v3, v4⟩ := vis_of S.O.o h3
  obtain ⟨tab, ht⟩ := Option.isSome_iff_exists.mp h4
  obtain ⟨fa, fd, j, hj, hm, hk, hb, F⟩ := S.O.w.xt.hot _ _ (S.hh _ _ (lookup_mem ht))
  have r1 := S.O.o.room.dp
  have r2 := S.O.o.room.un
  have hr : L2H.RoomH j (X.suite a ((a, oe) :: pn)).A := ⟨by show X.A.depth + 3 * j + 5 < recursionLimit; omega, by show X.A.units + 16 * j + 200 < cLine; omega⟩
  cases e : tab.lookup C with
  | none =>
    refine le_conv (X := X.suite a ((a, oe) :: pn)) le_never fun σ M Q z => ?_
    unfold wpH at z
    obtain ⟨_, t2, v2, e1, e2, _⟩ := z
    rw [ht] at e1
    cases e1
    rw [e] at e2
    cases e2
  | some hv =>
    have z := le_hcall (X := X.suite a ((a, oe) :: pn)) (B := B) (i := i) (q := xp) (p := np) (pos := pos) (n := n) (g := x) (fa := fa) (fd := fd) (tab := tab) (hv := hv) S.h F hr S.O.o.gd g1 hm hk hb (pe_var (X := X.suite a ((a, oe) :: pn)) v1 v2 v3 v4) g2 e (star_cons rfl)
    refine le_conv (X := X.suite a ((a, oe) :: pn)) z fun σ M Q w => ?_
    unfold wpH at w
    obtain ⟨h1, t2, v2, e1, e2, q⟩ := w
    rw [ht] at e1
    cases e1
    rw [e] at e2
    cases e2
    exact ⟨h1, q⟩
end
mutual
theorem sH : ∀ (c : HE) {X : Cx} {I : Inf} {B0 B : Bs} {E : ED} {hot : List (Str × List (Str × HV))} {subs all : List Str} {i : Nat} {a : Addr} {oe : Obj} {pn : List (Addr × Obj)} {C f : Str} {y : D} {dx : Addr} {v : V} (S : SuOk W p q k X I B0 E hot subs all i B a oe pn C f y dx v) (e : Expr), mH W.xt hot subs i I c e = true →
    PE (X.suite a ((a, oe) :: pn)) e (LE X.K B fun σ M Q => σ[i]? = some (some (.ref a)) ∧ wpH hot C f y c (σ.set i none) M Q)
  | .var j, X, I, B0, B, E, hot, subs, all, i, a, oe, pn, C, f, y, dx, v, S, e, h => by
    unfold mH at h
    split at h
    · rw [Bool.and_eq_true] at h
      obtain ⟨v1, v2, v3, v4⟩ := vis_of S.O.o h.1
      have ne := of_decide_eq_true h.2
      exact le_conv (X := X.suite a ((a, oe) :: pn)) (le_var (pe_var (X := X.suite a ((a, oe) :: pn)) v1 v2 v3 v4)) fun σ M Q ⟨_, d, e, q⟩ => ⟨d, by rw [List.getElem?_set_ne (Ne.symm ne)] at e; exact e, q⟩
    · cases h
  | .nev, X, I, B0, B, E, hot, subs, all, i, a, oe, pn, C, f, y, dx, v, S, e, h => le_conv (X := X.suite a ((a, oe) :: pn)) le_never fun σ M Q ⟨_, q⟩ => q.elim
  | .fld f', X, I, B0, B, E, hot, subs, all, i, a, oe, pn, C, f, y, dx, v, S, e, h => by
    unfold mH at h
    split at h
    · rename_i n np name pos
      simp only [Bool.and_eq_true] at h
      have e1 := of_decide_eq_true h.1.1.1
      subst e1
      obtain ⟨v1, v2, v3, v4⟩ := vis_of S.O.o h.1.1.2
      by_cases hf : name = f
      · subst hf
        obtain ⟨⟨_, _, _, F⟩, _⟩ := S.O.w.xt.xc _ _ (of_decide_eq_true (List.all_eq_true.mp h.2 C S.hC))
        exact le_conv (X := X.suite a ((a, oe) :: pn)) (le_hfld (B := B) S.h F.noF (pe_var (X := X.suite a ((a, oe) :: pn)) v1 v2 v3 v4) (base_of rfl)) fun σ M Q ⟨h1, _, q⟩ => ⟨h1, q⟩
      · exact le_conv (X := X.suite a ((a, oe) :: pn)) le_never fun σ M Q ⟨_, e, _⟩ => hf e
    · cases h
  | .str z, X, I, B0, B, E, hot, subs, all, i, a, oe, pn, C, f, y, dx, v, S, e, h => by
    unfold mH at h
    split at h
    · have e1 := of_decide_eq_true h
      subst e1
      exact le_conv (X := X.suite a ((a, oe) :: pn)) (le_tv pe_str fun H => mk_str z) fun σ M Q ⟨_, q⟩ => q
    · cases h
  | .int z, X, I, B0, B, E, hot, subs, all, i, a, oe, pn, C, f, y, dx, v, S, e, h => by
    unfold mH at h
    split at h
    · have e1 := of_decide_eq_true h
      subst e1
      exact le_conv (X := X.suite a ((a, oe) :: pn)) (le_tv pe_int fun H => mk_int z) fun σ M Q ⟨_, q⟩ => q
    · cases h
  | .repr c, X, I, B0, B, E, hot, subs, all, i, a, oe, pn, C, f, y, dx, v, S, e, h => by
    unfold mH at h
    split at h
    · rename_i x xp z pos
      simp only [Bool.and_eq_true] at h
      have e1 := of_decide_eq_true h.1.1.1
      subst e1
      obtain ⟨g1, g2, g3⟩ := gl_of S.O.o h.1.1.2
      have st : starEach [z] (X.suite a ((a, oe) :: pn)).env = _ := star_cons h.1.2
      exact le_conv (X := X.suite a ((a, oe) :: pn)) (le_callB (c_repr (X := X.suite a ((a, oe) :: pn)) S.O.o.gd (su_un S)) g1 (S.O.w.bn _ (by decide)) boot_repr (la_cons (sH c S z h.2) la_nil st) g3 g2 st rfl) fun σ M Q q => q
    · cases h
  | .cat c d, X, I, B0, B, E, hot, subs, all, i, a, oe, pn, C, f, y, dx, v, S, e, h => by
    unfold mH at h
    split at h
    · rw [Bool.and_eq_true] at h
      refine le_conv (X := X.suite a ((a, oe) :: pn)) (le_bin (fz := true) (sH c S _ h.1) (sH d S _ h.2)) fun σ M Q ⟨h1, q⟩ => ⟨h1, ?_⟩
      rw [and_fun h1]
      exact q
    · cases h
  | .isi d tab, X, I, B0, B, E, hot, subs, all, i, a, oe, pn, C, f, y, dx, v, S, e, h => by
    unfold mH at h
    split at h
    · simp only [Bool.and_eq_true] at h
      exact sh_isi S (of_decide_eq_true h.1.1.1.1) h.1.1.1.2 h.1.1.2 h.1.2 h.2
    · cases h
  | .ifi d tab c1 c2, X, I, B0, B, E, hot, subs, all, i, a, oe, pn, C, f, y, dx, v, S, e, h => by
    unfold mH at h
    split at h
    · rename_i x xp n np t cp y1 y2 pos
      simp only [Bool.and_eq_true] at h
      have z := sh_isi (pf := xp) (np := np) (pos := cp) S (of_decide_eq_true h.1.1.1.1.1.1) h.1.1.1.1.1.2 h.1.1.1.1.2 h.1.1.1.2 h.1.1.2
      refine le_conv (X := X.suite a ((a, oe) :: pn)) (le_ifx (lt_val (t := fun σ M Q => σ[i]? = some (some (.ref a)) ∧ ∃ b, tab.lookup C = some b ∧ Q b M) z (true_of rfl)) (sH c1 S _ h.1.2) (sH c2 S _ h.2)) fun σ M Q ⟨h1, k, e, q⟩ => ⟨h1, k, e, fun hk => ⟨h1, q.1 hk⟩, fun hk => ⟨h1, q.2 hk⟩⟩
    · cases h
  | .ix c d, X, I, B0, B, E, hot, subs, all, i, a, oe, pn, C, f, y, dx, v, S, e, h => by
    unfold mH at h
    split at h
    · simp only [Bool.and_eq_true] at h
      have hu := su_un S
      refine le_conv (X := X.suite a ((a, oe) :: pn)) (le_ix (by omega) (sH c S _ h.1.2) (sH d S _ h.2) (plainIx_of h.1.1)) fun σ M Q ⟨h1, q⟩ => ⟨h1, ?_⟩
      rw [and_fun h1]
      exact q
    · cases h
  | .lst es, X, I, B0, B, E, hot, subs, all, i, a, oe, pn, C, f, y, dx, v, S, e, h => by
    unfold mH at h
    split at h
    · exact le_conv (X := X.suite a ((a, oe) :: pn)) (le_lst (fz := true) (sHs es S _ h)) fun σ M Q q => q
    · cases h
  | .tup es, X, I, B0, B, E, hot, subs, all, i, a, oe, pn, C, f, y, dx, v, S, e, h => by
    unfold mH at h
    split at h
    · exact le_conv (X := X.suite a ((a, oe) :: pn)) (le_tup (sHs es S _ h)) fun σ M Q q => q
    · cases h
  | .hcall g, X, I, B0, B, E, hot, subs, all, i, a, oe, pn, C, f, y, dx, v, S, e, h => by
    unfold mH at h
    split at h
    · simp only [Bool.and_eq_true] at h
      exact sh_call S (of_decide_eq_true h.1.1.1) h.1.1.2 h.1.2 h.2
    · cases h
  | .and c d, X, I, B0, B, E, hot, subs, all, i, a, oe, pn, C, f, y, dx, v, S, e, h => by
    unfold mH at h
    split at h
    · rw [Bool.and_eq_true] at h
      have hc : PE (X.suite a ((a, oe) :: pn)) _ (LE X.K B (VT fun σ M Q => (σ[i]? = some (some (.ref a)) ∧ wpH hot C f y c (σ.set i none) M fun x M1 => ∃ b, x = D.bl b ∧ Q b M1))) := lv_valE (X := X.suite a ((a, oe) :: pn)) (sH c S _ h.1)
      have hd : PE (X.suite a ((a, oe) :: pn)) _ (LE X.K B (VT fun σ M Q => (σ[i]? = some (some (.ref a)) ∧ wpH hot C f y d (σ.set i none) M fun x M1 => ∃ b, x = D.bl b ∧ Q b M1))) := lv_valE (X := X.suite a ((a, oe) :: pn)) (sH d S _ h.2)
      refine le_conv (X := X.suite a ((a, oe) :: pn)) (lv_and hc (lv_one hd)) fun σ M Q ⟨h1, q⟩ => ⟨h1, ?_⟩
      have e3 : ∀ b M1, Bif b (σ[i]? = some (some (D.ref a)) ∧ wpH hot C f y d (σ.set i none) M1 fun x M1 => ∃ b, x = D.bl b ∧ Q (.bl b) M1) (Q (.bl false) M1) = Bif b (wpH hot C f y d (σ.set i none) M1 fun e M2 => ∃ l, e = .bl l ∧ Q (.bl l) M2) (Q (.bl false) M1) := fun b M1 => by rw [propext (and_iff_right h1)]
      show wpH hot C f y c (σ.set i none) M fun x M1 => ∃ b, x = D.bl b ∧ Bif b (σ[i]? = some (some (D.ref a)) ∧ wpH hot C f y d (σ.set i none) M1 fun x M1 => ∃ b, x = D.bl b ∧ Q (.bl b) M1) (Q (.bl false) M1)
      simp only [e3]
      exact q
    · cases h
theorem sHs : ∀ (c : HEs) {X : Cx} {I : Inf} {B0 B : Bs} {E : ED} {hot : List (Str × List (Str × HV))} {subs all : List Str} {i : Nat} {a : Addr} {oe : Obj} {pn : List (Addr × Obj)} {C f : Str} {y : D} {dx : Addr} {v : V} (S : SuOk W p q k X I B0 E hot subs all i B a oe pn C f y dx v) (es : List Expr), mHs W.xt hot subs i I c es = true →
    PA (X.suite a ((a, oe) :: pn)) es (LA X.K B fun σ M Q => σ[i]? = some (some (.ref a)) ∧ wpHs hot C f y c (σ.set i none) M Q)
  | .nil, X, I, B0, B, E, hot, subs, all, i, a, oe, pn, C, f, y, dx, v, S, es, h => by
    unfold mHs at h
    have e1 := List.isEmpty_iff.mp h
    subst e1
    exact la_conv (X := X.suite a ((a, oe) :: pn)) la_nil fun σ M Q ⟨_, q⟩ => q
  | .cons c cs, X, I, B0, B, E, hot, subs, all, i, a, oe, pn, C, f, y, dx, v, S, es, h => by
    unfold mHs at h
    split at h
    · simp only [Bool.and_eq_true] at h
      refine la_conv (X := X.suite a ((a, oe) :: pn)) (la_cons (sH c S _ h.1.2) (sHs cs S _ h.2) (star_cons h.1.1)) fun σ M Q ⟨h1, q⟩ => ⟨h1, ?_⟩
      rw [and_fun h1]
      exact q
    · cases h
end
end
section
variable {W : Wd} {p q : FId → CallT} {k : Nat}
mutual
theorem sS : ∀ (c : CS) (I : Inf) (s : Stmt) (X : Cx) (B : Bs × ED), mS W c I s = true → OkW W p q k X I B.1 B.2 → (X.stack = X.env :: X.outer ∧ X.env.frame = some X.env.locals) → I.sc.kind = .function → PS X s (LS X.K B.1 (wpS (gamW W p q) B.2 c))
  | .expr a, I, s, X, B, h, O, ho, hk => by
    unfold mS at h
    split at h
    · rw [Bool.and_eq_true] at h
      exact ls_expr (sE a I _ X B h.1 O) h.2
    · cases h
  | .asg g a, I, s, X, B, h, O, ho, hk => by
    unfold mS at h
    split at h
    · rename_i tg e pos
      simp only [Bool.and_eq_true] at h
      obtain ⟨⟨⟨⟨h1, h2⟩, h3⟩, h4⟩, h5⟩ := h
      have hs : swapsWithSole [tg] e pos.line X.env = pure false := by
        rw [Bool.or_eq_true] at h3
        rcases h3 with h3 | h3
        · exact sws_of h3
        · unfold cellB at h3
          split at h3
          · refine sw_cell (p := _) (l := pos.line) (e := e) ?_
            rw [O.o.sc]
            simpa using h3
          · cases h3
      refine ls_asg (sE a I _ X B h1 O) (sG g I _ X B h2 O) hs ?_ h5
      split at h4
      · rw [Bool.or_eq_true] at h4
        rcases h4 with h4 | h4
        · exact stores_of h4
        · exact stores_cell O.o.sc h4
      · rename_i hno
        unfold swappedStores
        cases tg <;> first | rfl | (exfalso; exact hno _ _ _ rfl) | (cases g <;> (unfold mG at h2; cases h2))
    · cases h
  | .setLc i fz elt g it ifs own, I, s, X, B, h, O, ho, hk => by
    unfold mS at h
    split at h
    · rename_i y py x tg iter tests scope cp pos
      simp only [Bool.and_eq_true] at h
      obtain ⟨⟨⟨⟨⟨⟨⟨⟨⟨h0, hsw⟩, h1⟩, h2⟩, h3⟩, h4⟩, h5⟩, h6⟩, h7⟩, h8⟩ := h
      have hb : BlkOk X.N X.env.scope scope own := by rw [O.o.N, O.o.sc]; exact blkOk_by h3
      unfold swB at hsw
      simp only [Bool.and_eq_true, Bool.not_eq_true'] at hsw
      have hl := of_decide_eq_true hsw.1.1
      refine ls_setLc O.o.calm (by rw [O.o.N]; exact O.o.nd) (by rw [O.o.N]; exact of_decide_eq_true h0) (by rw [O.o.sc]; exact hl) (sw_true (by rw [O.o.sc]; exact hk) (by rw [O.o.sc]; exact hl) hsw.1.2 hsw.2) (sI it I g.isTup iter tg X B h1 ?_ O) hb (fun i hi => of_decide_eq_true (List.all_eq_true.mp h4 i hi)) ?_ ?_ ?_ (fold_of h2)
      · intro ht
        split at h5
        · exact ⟨_, _, _, rfl⟩
        · rw [ht] at h5; cases h5
      · exact fun s H C cl fp => sG g (I.blk scope) tg _ (B.1, EF0) h6 (O.blk scope s H C cl fp)
      · exact fun s H C cl fp => sTs ifs (I.blk scope) tests _ (B.1, EF0) h7 (O.blk scope s H C cl fp)
      · exact fun s H C cl fp => sE elt (I.blk scope) x _ (B.1, EF0) h8 (O.blk scope s H C cl fp)
    · cases h
  | .setLc2 i fz elt g it ifs own g1 e1 ifs1 own1, I, s, X, B, h, O, ho, hk => by
    unfold mS at h
    split at h
    · rename_i y py x tg iter tests tg1 iter1 tests1 scope cp pos
      simp only [Bool.and_eq_true] at h
      obtain ⟨⟨⟨⟨⟨⟨⟨⟨⟨⟨h0, hsw⟩, h1⟩, h2⟩, h3⟩, h4⟩, h5⟩, h6⟩, h7⟩, h8⟩, ⟨⟨⟨⟨k1, k2⟩, k3⟩, k4⟩, k5⟩, k6⟩ := h
      have hb : BlkOk X.N X.env.scope scope own := by rw [O.o.N, O.o.sc]; exact blkOk_by h3
      unfold swB at hsw
      simp only [Bool.and_eq_true, Bool.not_eq_true'] at hsw
      have hl := of_decide_eq_true hsw.1.1
      refine ls_setLc2 (ws := gSlots g) (ws1 := gSlots g1) O.o.calm (by rw [O.o.N]; exact O.o.nd) (by rw [O.o.N]; exact of_decide_eq_true h0) (by rw [O.o.sc]; exact hl) (sw_true (by rw [O.o.sc]; exact hk) (by rw [O.o.sc]; exact hl) hsw.1.2 hsw.2) (sI it I g.isTup iter tg X B h1 ?_ O) hb (fun i hi => of_decide_eq_true (List.all_eq_true.mp h4 i hi)) (fun i hi => of_decide_eq_true (List.all_eq_true.mp k3 i hi)) (fun i hi => of_decide_eq_true (List.all_eq_true.mp k4 i hi)) ?_ ?_ ?_ ?_ ?_ ?_ (fold_of h2) (fun env => fold_of k2)
      · intro ht
        split at h5
        · exact ⟨_, _, _, rfl⟩
        · rw [ht] at h5; cases h5
      · exact fun s H C cl fp => sG g (I.blk scope) tg _ (B.1, EF0) h6 (O.blk scope s H C cl fp)
      · exact fun s H C cl fp => sTs ifs (I.blk scope) tests _ (B.1, EF0) h7 (O.blk scope s H C cl fp)
      · exact fun s H C cl fp => sE elt (I.blk scope) x _ (B.1, EF0) h8 (O.blk scope s H C cl fp)
      · exact fun s H C cl fp => sE e1 (I.blk scope) iter1 _ (B.1, EF0) k1 (O.blk scope s H C cl fp)
      · exact fun s H C cl fp => sG g1 (I.blk scope) tg1 _ (B.1, EF0) k5 (O.blk scope s H C cl fp)
      · exact fun s H C cl fp => sTs ifs1 (I.blk scope) tests1 _ (B.1, EF0) k6 (O.blk scope s H C cl fp)
    · cases h
  | .setf o f a, I, s, X, B, h, O, ho, hk => by
    unfold mS at h
    split at h
    · simp only [Bool.and_eq_true] at h
      obtain ⟨⟨h1, h2⟩, h3⟩ := h
      have e1 := of_decide_eq_true h1
      subst e1
      exact ls_fld (fl := W.fl) (fun C hC => O.w.fld C _ hC) (sE o I _ X B h2 O) (sE a I _ X B h3 O)
    · cases h
  | .par2 i j a b, I, s, X, B, h, O, ho, hk => by
    unfold mS at h
    split at h
    · rename_i x px y py kt pt u v k2 pt2 pos
      simp only [Bool.and_eq_true] at h
      obtain ⟨⟨hp, h1⟩, h2⟩ := h
      have hw := par_of (kt := kt) (pt := pt) (k2 := k2) (pt2 := pt2) (env := X.env) (by rw [O.o.sc]; exact hk) O.o.sc hp
      unfold parB at hp
      simp only [Bool.and_eq_true] at hp
      obtain ⟨⟨⟨⟨⟨⟨⟨⟨⟨⟨p1, p2⟩, p3⟩, p4⟩, p5⟩, p6⟩, p7⟩, p8⟩, p9⟩, p10⟩, p11⟩ := hp
      have ha : PA X [u, v] (LA X.K B.1 (fun σ M Q => wpE (gamW W p q) B.2 a σ M fun d M1 => (fun σ M Q => wpE (gamW W p q) B.2 b σ M fun e M2 => (fun (_ : DSt) M Q => Q [] M) σ M2 fun xs M3 => Q (e :: xs) M3) σ M1 fun xs M2 => Q (d :: xs) M2)) :=
        la_cons (sE a I _ X B h1 O) (la_cons (sE b I _ X B h2 O) la_nil (star_cons p9)) (star_cons p8)
      have z := ls_par (B := B.1) (ps_par (pos := pos) O.o.calm (by rw [O.o.N]; exact O.o.nd) (by rw [O.o.N]; exact of_decide_eq_true p1) (by rw [O.o.N]; exact of_decide_eq_true p2) (of_decide_eq_true p3) (by rw [O.o.sc]; exact of_decide_eq_true p4) (by rw [O.o.sc]; exact of_decide_eq_true p5) ha hw rfl)
      refine z.imp fun E σ H ⟨σd, M, Dd, a', t, k⟩ => ⟨σd, M, Dd, a', ?_, k⟩
      have e : ∀ (d : D) M1, (wpE (gamW W p q) B.2 b σd M1 fun e M2 => ∃ d' e', [d, e] = [d', e'] ∧ Dd.nx ((σd.set i (some d')).set j (some e')) M2) = (wpE (gamW W p q) B.2 b σd M1 fun e M2 => Dd.nx ((σd.set i (some d)).set j (some e)) M2) := by
        intro d M1
        congr 1
        funext e M2
        exact propext ⟨fun ⟨d', e', h, q⟩ => by cases h; exact q, fun q => ⟨d, e, rfl, q⟩⟩
      show wpE (gamW W p q) B.2 a σd M fun d M1 => wpE (gamW W p q) B.2 b σd M1 fun e M2 => ∃ d' e', [d, e] = [d', e'] ∧ Dd.nx ((σd.set i (some d')).set j (some e')) M2
      simp only [e]
      exact t
    · cases h
  | .aug _ _ _, I, s, X, B, h, O, ho, hk => by unfold mS at h; cases h
  | .ret a, I, s, X, B, h, O, ho, hk => by
    unfold mS at h
    split at h
    · exact ls_ret (sE a I _ X B h O)
    · cases h
  | .retN, I, s, X, B, h, O, ho, hk => by
    unfold mS at h
    split at h
    · exact ls_retN
    · cases h
  | .ite c a b, I, s, X, B, h, O, ho, hk => by
    unfold mS at h
    split at h
    · simp only [Bool.and_eq_true] at h
      exact ls_if (sT c false I _ X B h.1.1 O) (sSs a I _ X B h.1.2 O ho hk) (sSs b I _ X B h.2 O ho hk)
    · cases h
  | .for_ g it b, I, s, X, B, h, O, ho, hk => by
    unfold mS at h
    split at h
    · rename_i tg iter body pos
      simp only [Bool.and_eq_true] at h
      obtain ⟨⟨⟨⟨h1, h2⟩, h5⟩, h6⟩, h7⟩ := h
      refine ls_for O.o.own O.o.calm (sI it I g.isTup iter tg X B h1 ?_ O) (sG g I tg X B h6 O) (sSs b I body X B h7 O ho hk) (fold_of h2)
      intro ht
      split at h5
      · exact ⟨_, _, _, rfl⟩
      · rw [ht] at h5; cases h5
    · cases h
  | .while_ c b, I, s, X, B, h, O, ho, hk => by
    unfold mS at h
    split at h
    · simp only [Bool.and_eq_true] at h
      exact ls_while O.o.own (sT c false I _ X B h.1 O) (sSs b I _ X B h.2 O ho hk)
    · cases h
  | .pass, I, s, X, B, h, O, ho, hk => by
    unfold mS at h
    split at h
    · exact ls_pass
    · cases h
  | .brk, I, s, X, B, h, O, ho, hk => by
    unfold mS at h
    split at h
    · exact ls_brk
    · cases h
  | .cont, I, s, X, B, h, O, ho, hk => by
    unfold mS at h
    split at h
    · exact ls_cont
    · cases h
  | .never, I, s, X, B, h, O, ho, hk => ls_never
  | .raise C f kw a, I, s, X, B, h, O, ho, hk => by
    unfold mS at h
    split at h
    · simp only [Bool.and_eq_true] at h
      obtain ⟨⟨⟨⟨⟨h0, h1⟩, h2⟩, h3⟩, h4⟩, h5⟩ := h
      have e1 := of_decide_eq_true h1
      subst e1
      obtain ⟨g1, g2, _⟩ := gl_of O.o h2
      obtain ⟨T, hm⟩ := O.w.xt.xc _ _ (of_decide_eq_true h3)
      have hb := T
      obtain ⟨_, _, _, F⟩ := hb
      exact ls_raise F.toXbF O.o.calm (mk_run1 T (O.o.room.mono O.k1) (O.w.bn _ (by decide)) g1 hm (sE a I _ X B h5 O) g2 (star_cons h4)) O.x
    · simp only [Bool.and_eq_true] at h
      obtain ⟨⟨⟨⟨⟨h0, h1⟩, h1'⟩, h2⟩, h3⟩, h5⟩ := h
      have e1 := of_decide_eq_true h1
      have e2 := of_decide_eq_true h1'
      subst e1 e2
      obtain ⟨g1, g2, _⟩ := gl_of O.o h2
      obtain ⟨T, hm⟩ := O.w.xt.xc _ _ (of_decide_eq_true h3)
      have hb := T
      obtain ⟨_, _, _, F⟩ := hb
      exact ls_raise F.toXbF O.o.calm (mk_runk T (O.o.room.mono O.k1) (O.w.bn _ (by decide)) g1 hm (sE a I _ X B h5 O) g2) O.x
    · cases h
  | .try1 all C subs i hot body hh, I, s, X, B, h, O, ho, hk => by
    unfold mS at h
    split at h
    · rename_i b x xp n e rp hp tp
      simp only [Bool.and_eq_true] at h
      obtain ⟨⟨⟨⟨⟨⟨⟨⟨⟨h1, h2⟩, h3⟩, h4⟩, h5⟩, h6⟩, h7⟩, h8⟩, h9⟩, h10⟩ := h
      have e1 := of_decide_eq_true h1
      subst e1
      obtain ⟨g1, g2, _⟩ := gl_of O.o h2
      have hx : ∀ D ∈ all, XbF X.K (He.ga X.K D) ∧ PySem.W.exmOne X.K (.ref (He.ga X.K D)) (.ref (He.ga X.K x)) = some (decide (D ∈ subs)) ∧ X.mg x = some (.ref (He.ga X.K x)) := fun D hD => O.w.xt.ex D x _ (of_decide_eq_true (List.all_eq_true.mp h6 D hD))
      obtain ⟨d0, hd0⟩ : ∃ D, D ∈ all := by
        cases all with
        | nil => cases h5
        | cons D r => exact ⟨D, List.mem_cons_self ..⟩
      have hal : ∀ D ∈ subs, D ∈ all := fun D hD => of_decide_eq_true (List.all_eq_true.mp h7 D hD)
      have hi := of_decide_eq_true h3
      have hl := of_decide_eq_true h4
      refine ls_try1 (wh := fun C f y => wpH hot C f y hh) (t := fun E' => wpSs (gamW W p q) E' body) ho.1 ho.2 (by rw [O.o.N]; exact O.o.nd) (by rw [O.o.N]; exact hi) (by show X.env.scope.names.lookup n = _; rw [O.o.sc]; exact hl) ⟨g1, g2, .inl (hx d0 hd0).2.2⟩ O.x (fun D hD => ⟨(hx D hD).1, (hx D hD).2.1⟩) hal ?_ ?_
      · intro E' B' pn xe tk po
        exact sSs body I b (X.tr pn xe) (B', E') h9 ⟨⟨O.o.calm, O.o.gd, O.o.room, O.o.N, O.o.nd, O.o.sc, O.o.fn, po⟩, O.w, O.d, O.k1, tk, O.lam⟩ ho hk
      · intro a oe pn C f y dx v B' hC hot'
        exact sH hh (all := all) (pn := pn) ⟨O, fun g tab hg => of_decide_eq_true (List.all_eq_true.mp h8 (g, tab) hg), hC, hot'⟩ e h10
    · cases h
theorem sSs : ∀ (c : CSs) (I : Inf) (ss : List Stmt) (X : Cx) (B : Bs × ED), mSs W c I ss = true → OkW W p q k X I B.1 B.2 → (X.stack = X.env :: X.outer ∧ X.env.frame = some X.env.locals) → I.sc.kind = .function → PSs X ss (LS X.K B.1 (wpSs (gamW W p q) B.2 c))
  | .nil, I, ss, X, B, h, O, ho, hk => by
    unfold mSs at h
    have e1 := List.isEmpty_iff.mp h
    subst e1
    exact lss_nil
  | .cons s ss, I, l, X, B, h, O, ho, hk => by
    unfold mSs at h
    split at h
    · rw [Bool.and_eq_true] at h
      have z := lss_cons (sS s I _ X B h.1 O ho hk) (sSs ss I _ X B h.2 O ho hk)
      exact z
    · cases h
end
end

/-! ### the whole table -/
/-- what stands behind the top for a def of the table: its parameters' names, its body, its scope -/
structure DefIn (K : PySem.W.Frag) (W : Wd) (c : CFun) (fa : Addr) (fd : FuncData) : Prop where
  ex : ∃ x qual params body scope, FunD K x qual params body scope [] [] fa fd ∧ FnScope c.N c.ps scope ∧ mSs W c.body ⟨c.N, scope, none, c.lf⟩ body = true ∧ (c.lf ≠ "" → fa = He.ga K c.lf ∧ qual = c.lf)
  bd : Binds K fd c.ps []
structure Ready (K : PySem.W.Frag) (mg : Str → Option Value) (W : Wd) : Prop where
  fn : ∀ f c, W.T (f, none) = some c → ∃ fa fd, mg f = some (.ref fa) ∧ PySem.W.keepIn K (.ref fa) = true ∧ (∀ ks, (f, ks) ∈ W.kw → KwB K fd c.ps ks) ∧ DefIn K W c fa fd
  meth : ∀ C m c, W.T (C, some m) = some c → ∃ fa fd, Cls K (He.ga K C) ∧ Meth K (He.ga K C) m fa ∧ DefIn K W c fa fd ∧ (m = "__init__" → mg C = some (.ref (He.ga K C)) ∧ Mk K (He.ga K C) fa)
  glob : ∀ x d, W.gl x = some d → ∃ u v, mg x = some u ∧ RelV v u ∧ ∀ H, Rep K H d v
  fld : ∀ C f, W.fl C f = true → Cls K (He.ga K C) ∧ NoAttr K (He.ga K C) f
  bn : ∀ x ∈ bNames, mg x = none
theorem startD_rep {K : PySem.W.Frag} {H : Hp} {c : CFun} {ds : List D} {vs : List V} (r : RepL K H ds vs) : RepS K H (startD c ds) (start c.N vs) := by
  unfold startD L2.start
  have e : ds.length = vs.length := r.length
  rw [e]
  have h1 : ∀ {ds : List D} {vs : List V}, RepL K H ds vs → RepS K H (ds.map some) (vs.map some) := by
    intro ds
    induction ds with
    | nil => intro vs r; rw [r.nil_inv]; exact .nil
    | cons d ds ih =>
      intro vs r
      obtain ⟨v, rr, e, h1, h2⟩ := r.cons_inv
      subst e
      exact .cons (show RelD K H (some d) (some v) from h1) (ih h2)
  have h2 : ∀ n, RepS K H (List.replicate n none) (List.replicate n (none : Option V)) := by
    intro n
    induction n with
    | zero => exact .nil
    | succ n ih => exact .cons trivial ih
  have h3 : ∀ {a b : DSt} {c d : SV}, RepS K H a c → RepS K H b d → RepS K H (a ++ b) (c ++ d) := by
    intro a b c d x y
    induction x with
    | nil => exact y
    | cons h t ih => exact .cons h ih
  exact h3 (h1 r) (h2 _)
theorem XOk.mono {P : Program} {w : World} {K : PySem.W.Frag} {mg : Str → Option Value} {base : Heap} {x : Xt} {j k : Nat} (o : XOk P w K mg base x j) (h : j ≤ k) : XOk P w K mg base x k :=
  ⟨o.xc, o.x0, o.is, o.ex, o.sm, fun g tab hg => let ⟨fa, fd, i, hi, r⟩ := o.hot g tab hg; ⟨fa, fd, i, Nat.le_trans hi h, r⟩, fun g hd hg => (o.hd g hd hg).mono h, o.tb⟩
theorem body_ok {P : Program} {w : World} {K : PySem.W.Frag} {mg : Str → Option Value} {base : Heap} {W : Wd} {p q : FId → CallT} {k : Nat} {c : CFun} {fa : Addr} {fd : FuncData} (k1 : 1 ≤ k) (hW : WOk P w K mg base W p q k) (hwd : W.wd = w) (Dn : DefIn K W c fa fd) : FnG P w K mg base (k + 1) fa fd c.ps (wpBody (gamW W p q) c) := by
  obtain ⟨x, qual, params, body, scope, F, S, hm, hlf⟩ := Dn.ex
  refine fnG_of F S (fun ds M Q E h => h.1) fun cdv A outer s H vs ds M Qd Ed hr1 hcd hr hgd rl rm hg => ?_
  have tk : Takes (cxOf (L2.CX P w) P w K mg base c.N qual scope fa cdv A outer s H (KXd K M H Ed)) (WXE K (M, H) fun C ks vs _ M' => ∃ M'', Sub M'' M' ∧ Ed C ks vs M'') :=
    (takes_of rfl rfl rfl rfl).imp fun cls d σ H1 ⟨C, f, y, dx, v, σd, M1, e1, e2, h1, h2, a1, M2, sb, q⟩ => ⟨C, f, y, dx, v, M2, e1, e2, h1, h2, a1.m.sub sb, a1.b.sub sb, q⟩
  have O : OkW W p q k (cxOf (L2.CX P w) P w K mg base c.N qual scope fa cdv A outer s H (KXd K M H Ed)) ⟨c.N, scope, none, c.lf⟩ (M, H) (fun C ks vs _ M' => ∃ M'', Sub M'' M' ∧ Ed C ks vs M'') :=
    ⟨⟨rfl, hgd, hr, rfl, S.nd, rfl, fun _ _ => rfl, passes_of rfl⟩, hW, hwd, k1, tk, fun h => by
      obtain ⟨e1, e2⟩ := hlf h
      obtain ⟨o, fd', q1, q2, q3, q4⟩ := hcd
      refine ⟨?_, by rw [← show qual = c.lf from e2]; rfl, Slk.of hr1 k1 _⟩
      show cdv = .ref (codA K c.lf)
      unfold codA
      rw [← e1, q1]
      dsimp only
      rw [q2]
      dsimp only
      rw [q3]
      cases cdv with
      | ref c => rfl
      | _ => cases q4⟩
  have z := sSs c.body ⟨c.N, scope, none, c.lf⟩ body (cxOf (L2.CX P w) P w K mg base c.N qual scope fa cdv A outer s H (KXd K M H Ed)) ((M, H), fun C ks vs _ M' => ∃ M'', Sub M'' M' ∧ Ed C ks vs M'') hm O ⟨rfl, rfl⟩ S.kind
  refine ⟨_, z, startD c ds, M, _, ⟨.refl, startD_rep rl, rm⟩, hg.2, ?_⟩
  refine ⟨fun σd M' σ H' f _ m ⟨M'', sb, q⟩ => ⟨.non, M'', f.sub sb, mk_non, m.sub sb, q⟩, fun d M' v H' f r m ⟨M'', sb, q⟩ => ⟨d, M'', f.sub sb, r, m.sub sb, q⟩, fun _ _ _ _ _ _ _ q => q.elim, fun _ _ _ _ _ _ _ q => q.elim⟩
theorem all_ok {P : Program} {w : World} {K : PySem.W.Frag} {mg : Str → Option Value} {base : Heap} {W : Wd} (R : Ready K mg W) (hX : XOk P w K mg base W.xt 1) (hwd : W.wd = w) : ∀ n,
    (∀ id c fa fd, W.T id = some c → DefIn K W c fa fd → FnG P w K mg base (n + 1) fa fd c.ps ((wpFF W.T W.gl W.fl W.wd n).1 id)) ∧
    (∀ id c fa fd, W.T id = some c → DefIn K W c fa fd → FnG P w K mg base n fa fd c.ps ((wpFF W.T W.gl W.fl W.wd n).2 id))
  | 0 => ⟨fun id c fa fd _ _ => ⟨fun _ _ _ _ h => h.elim, fun _ _ _ _ _ _ _ _ _ _ _ _ _ _ _ _ _ _ h => h.elim⟩, fun id c fa fd _ _ => ⟨fun _ _ _ _ h => h.elim, fun _ _ _ _ _ _ _ _ _ _ _ _ _ _ _ _ _ _ h => h.elim⟩⟩
  | n + 1 => by
    obtain ⟨h1, h2⟩ := all_ok R hX hwd n
    refine ⟨fun id c fa fd hc Dn => ?_, fun id c fa fd hc Dn => h1 id c fa fd hc Dn⟩
    have hW : WOk P w K mg base W (wpFF W.T W.gl W.fl W.wd n).1 (wpFF W.T W.gl W.fl W.wd n).2 (n + 1) := by
      refine ⟨fun f c hc => ?_, fun C m c hc => ?_, fun C c hc => ?_, R.glob, R.fld, R.bn, hX.mono (Nat.succ_le_succ (Nat.zero_le n))⟩
      · obtain ⟨fa, fd, hm, hk, hkw, Dn⟩ := R.fn f c hc
        exact ⟨fa, fd, hm, hk, Dn.bd, hkw, h1 _ _ _ _ hc Dn⟩
      · obtain ⟨fa, fd, hcl, hm, Dn, _⟩ := R.meth C m c hc
        exact ⟨fa, fd, hcl, hm, Dn.bd, h1 _ _ _ _ hc Dn⟩
      · obtain ⟨fa, fd, hcl, hm, Dn, hi⟩ := R.meth C "__init__" c hc
        obtain ⟨g1, g2⟩ := hi rfl
        exact ⟨n, fa, fd, Nat.le_refl _, g1, g2, Dn.bd, h2 _ _ _ _ hc Dn⟩
    have e : (wpFF W.T W.gl W.fl W.wd (n + 1)).1 id = wpBody (gamW W (wpFF W.T W.gl W.fl W.wd n).1 (wpFF W.T W.gl W.fl W.wd n).2) c := by
      show stepF W.T W.gl W.fl W.wd (wpFF W.T W.gl W.fl W.wd n).1 (wpFF W.T W.gl W.fl W.wd n).2 id = _
      unfold stepF
      rw [hc]
      rfl
    rw [e]
    exact body_ok (Nat.succ_le_succ (Nat.zero_le n)) hW hwd Dn
end RX
set_option Elab.async false
set_option linter.all false
set_option maxRecDepth 100000
set_option maxHeartbeats 4000000
/-! RX14: the law's call behind the top; tables of code objects. -/
namespace RX
open PySem PySem.Spec PyProof.Rows L2

/-- the heap at the start: the tables alone -/
def mTab (K : PySem.W.Frag) (lams : List Str) : MM := fun P => (lams.find? fun T => decide (tabA K T = P)).map .tbl
theorem mTab_has {K : PySem.W.Frag} : ∀ {lams : List Str}, (lams.map (tabA K)).Nodup → ∀ T ∈ lams, mTab K lams (tabA K T) = some (.tbl T)
  | U :: r, nd, T, h => by
    rw [List.map_cons, List.nodup_cons] at nd
    unfold mTab
    rw [List.find?_cons]
    by_cases e : tabA K U = tabA K T
    · rw [decide_eq_true e]
      rcases List.mem_cons.mp h with rfl | h
      · rfl
      · exact absurd (e ▸ List.mem_map.mpr ⟨T, h, rfl⟩) nd.1
    · rw [decide_eq_false e]
      rcases List.mem_cons.mp h with rfl | h
      · exact absurd rfl e
      · exact mTab_has nd.2 T h
theorem mTab_inv {K : PySem.W.Frag} {lams : List Str} {P : Addr} {o : DO} (h : mTab K lams P = some o) : ∃ T ∈ lams, tabA K T = P ∧ o = .tbl T := by
  unfold mTab at h
  obtain ⟨T, h1, h2⟩ := Option.map_eq_some_iff.mp h
  exact ⟨T, List.mem_of_find?_eq_some h1, of_decide_eq_true (List.find?_some (p := fun T => decide (tabA K T = P)) h1), h2.symm⟩
theorem law_callG {P : Program} {w : World} {K : PySem.W.Frag} {mg mb : Str → Option Value} {k : Nat} {fa a : Addr} {fd : FuncData} {x : Str} {g : CallT} {s₁ : Shared} {vs : List Value} {ns : List Int} {lams : List Str}
    (KX : K.In s₁.heap) (hns : s₁.heap.Ns mainGlobals mg) (hb : s₁.heap.Ns builtinsNs mb) (hbb : ∀ x : Str, x ≠ "__name__" → mb x = bootBuiltins x) (hlim : s₁.heap.NoLimit) (hg : s₁.gens = #[])
    (hT : ∀ T ∈ lams, s₁.heap.get? (tabA K T) = some { cls := .none, data := .fields #[] }) (nT : ∀ T ∈ lams, K.lookup (tabA K T) = none) (C : ∀ T ∈ lams, PySem.W.CodeHd s₁.heap (codA K T) (tabA K T)) (nd : (lams.map (tabA K)).Nodup)
    (hbm : ∃ (bm : Addr) (ob : Obj), mg "__builtins__" = some (.ref bm) ∧ bm ≠ builtinsNs ∧ s₁.heap.get? bm = some ob ∧ ob.cls = .type "module" ∧ ob.dict = some builtinsNs ∧ ob.data = .plain)
    (ha : s₁.heap.get? a = some { cls := .type "list", data := .seq vs.toArray }) (hi : IntsAre vs ns) (hl : ns.length ≤ sizeLine) (hr : Room k callerA)
    (F : ∀ base : Heap, K.In base → base.Ns mainGlobals mg → (∀ T ∈ lams, LamX.TabB base mg (codA K T) (tabA K T)) → FnG P w K mg base k fa fd [x] g) (hbind : ∀ (s : Shared) (u : Value), BindsTo s fd ⟨[u], []⟩ [(x, u)])
    (hsp : ∀ M : MM, (∀ T ∈ lams, ∃ P, M P = some (.tbl T)) → g [.lst (ns.map D.int)] M (fun d _ => d = .bl true) XF) :
    codeAny (model P w) callerA (.call (.ref fa) ⟨[.ref a], []⟩) (fun r s' => r = .ok (.ret (.bool true)) ∧ OldK s₁.heap s'.heap ∧ s'.os = s₁.os ∧ AllBare s'.gens) s₁ := by
  have rv := vals_ints hi
  have lenV := hi.length
  have reps : ∀ H : Hp, RepL K H (ns.map D.int) (ns.map V.int) := fun H => by
    clear hsp lenV rv hi hl
    induction ns with
    | nil => exact .nil
    | cons n ns ih => exact .cons (mk_int n) ih
  have isT : ∀ b : Addr, b ∈ lams.map (tabA K) → s₁.heap.get? b = some { cls := .none, data := .fields #[] } := fun b hb => by
    obtain ⟨p, hp, e⟩ := List.mem_map.mp hb
    rw [← e]
    exact hT p hp
  have aT : a ∉ lams.map (tabA K) := fun z => by
    have q := isT a z
    rw [ha] at q
    have z' : Data.seq vs.toArray _ = Data.fields #[] := congrArg Obj.data (Option.some.inj q)
    cases z'
  have memT : ∀ T ∈ lams, tabA K T ∈ lams.map (tabA K) := fun p hp => List.mem_map.mpr ⟨p, hp, rfl⟩
  have core : ∀ H : Hp, (∀ T ∈ lams, H (tabA K T) = some (.tbl #[])) → (∀ b, H b = none ∨ b ∈ lams.map (tabA K) ∨ ∃ o xs, H b = some (.frz o (.lst xs))) → FzL K H a (ns.map V.int) → HOk P w H s₁.heap → (∀ b, H b ≠ none → b = a ∨ b ∈ lams.map (tabA K)) → (H a ≠ none → K.lookup a = none) →
      codeAny (model P w) callerA (.call (.ref fa) ⟨[.ref a], []⟩) (fun r s' => r = .ok (.ret (.bool true)) ∧ OldK s₁.heap s'.heap ∧ s'.os = s₁.os ∧ AllBare s'.gens) s₁ := by
    intro H hH hO hS hok hA hK
    have base_of : ∀ {b : Addr} {o : Obj}, s₁.heap.get? b = some o → H b = none → (hidT s₁.heap H).get? b = some o := fun e n => hidT_get e n
    have noD : ∀ {b : Addr} {o : Obj}, s₁.heap.get? b = some o → (∀ vs n, o.data ≠ .seq vs n) → o.data ≠ .fields #[] → H b = none := fun {b o} e h1 h2 => by
      cases q : H b with
      | none => rfl
      | some u =>
        rcases hA b (by rw [q]; simp) with e' | e'
        · rw [e', ha] at e
          cases e
          exact (h1 _ _ rfl).elim
        · rw [isT b e'] at e
          cases e
          exact (h2 rfl).elim
    have noA : ∀ {b : Addr} {o : Obj} {es : Array DictEntry} {ep : Nat}, s₁.heap.get? b = some o → o.data = .dict es ep → H b = none := fun {b o es ep} e d => by
      refine noD e (fun vs n z => ?_) fun z => ?_
      · rw [d] at z
        cases z
      · rw [d] at z
        cases z
    have nsK : ∀ {b : Addr} {m : Str → Option Value}, s₁.heap.Ns b m → (hidT s₁.heap H).Ns b m := fun {b m} ⟨o, es, ep, e, d, r⟩ => ⟨o, es, ep, base_of e (noA e d), d, r⟩
    have hKb : K.In (hidT s₁.heap H) := fun b o e => base_of (KX b o e) (by
      cases q : H b with
      | none => rfl
      | some u =>
        rcases hA b (by rw [q]; simp) with e' | e'
        · rw [e'] at e q
          rw [hK (by rw [q]; simp)] at e
          cases e
        · obtain ⟨p, hp, ep⟩ := List.mem_map.mp e'
          rw [← ep, nT p hp] at e
          cases e)
    have hM : Mod K mg (hidT s₁.heap H) := ⟨hKb, nsK hns, ⟨mb, nsK hb, hbb⟩, let ⟨mc, h1, h2⟩ := hlim; ⟨mc, nsK h1, h2⟩⟩
    have TB : ∀ T ∈ lams, LamX.TabB (hidT s₁.heap H) mg (codA K T) (tabA K T) := fun p hp => by
      have hTp := hT p hp
      refine ⟨?_, ?_, fun z => ?_⟩
      · obtain ⟨o, us, file, tf, flags, tg, inF, text, tt, e1, r1, r2, r3, r4, r5, r6, r7, r8, hne⟩ := C p hp
        refine ⟨o, us, file, tf, flags, tg, inF, text, tt, base_of e1 (noD e1 (fun vs n z => ?_) fun z => ?_), r1, r2, r3, r4, r5, r6, r7, r8, hne⟩
        · rw [r2] at z
          cases z
        · rw [r2] at z
          cases z
          simp at r3
      · obtain ⟨bm, ob, b1, b2, b3, b4, b5, b6⟩ := hbm
        have nG : bm ≠ mainGlobals := fun q => by
          obtain ⟨o, es, ep, e, hd, _⟩ := hns
          rw [q, e] at b3
          cases b3
          rw [hd] at b6
          cases b6
        have nP : bm ≠ tabA K p := fun q => by
          rw [q, hTp] at b3
          cases b3
          cases b6
        refine ⟨bm, ob, b1, b2, nG, nP, base_of b3 (noD b3 (fun vs n z => ?_) fun z => ?_), b4, b5, b6⟩
        · rw [b6] at z
          cases z
        · rw [b6] at z
          cases z
      · obtain ⟨o, es, ep, e, hd, _⟩ := hns
        rw [z, hTp] at e
        cases e
        cases hd
    have rM : RepM K (mTab K lams) H := fun b o e => by
      obtain ⟨T, hT', e1, e2⟩ := mTab_inv e
      subst e1 e2
      exact ⟨rfl, #[], hH T hT', trivial, fun pos cv hc => by cases hc⟩
    have e0 : Env0 P w K mg (hidT s₁.heap H) callerA [] s₁ H := ⟨rfl, hM, fun b o e => of_hidT e, Nat.le_of_eq (hidT_size _ _), trivial, fun b hb => absurd (show b ∈ ([] : List Addr) from hb) (by simp), hok, .of_eq hg⟩
    refine codeAny_mono ((F _ hKb (nsK hns) TB).run callerA [] s₁ H ⟨[.ref a], []⟩ [.ref a] [.ref a] [.lst (ns.map D.int)] (mTab K lams) _ XF hr rfl e0 (hbind s₁ (.ref a)) (.cons rfl .nil) (.cons (mk_lst hS (reps H)) .nil) rM (hsp _ fun T hT' => ⟨_, mTab_has nd T hT'⟩)) fun r s' h => ?_
    cases r with
    | error e => exact (cx_no h).elim
    | ok fl =>
      cases fl with
      | next => exact False.elim h
      | brk => exact False.elim h
      | cont => exact False.elim h
      | ret u =>
        obtain ⟨v, H', os, bare, un, hok', r', d, M', _, rd, _, q⟩ := h
        subst q
        have q' : v = .bl true := rep_bl rd
        subst q'
        obtain rfl : u = Value.bool true := r'
        have key : ∀ b o, b ∉ lams.map (tabA K) → s₁.heap.get? b = some o → s'.heap.get? b = some o := fun b o nb e => by
          cases q : H b with
          | none => exact un.keep b o e q (by intro z; exact absurd (show b ∈ ([] : List Addr) from z) (by simp)) (by simp)
          | some u =>
            rcases hO b with z | z | ⟨ob, xs, z⟩
            · rw [q] at z; cases z
            · exact absurd z nb
            · have z2 := un.frzs b ob _ z
              obtain ⟨e1, _⟩ := hok b _ z
              obtain ⟨e2, _⟩ := hok' b _ z2
              rw [e] at e1; cases e1
              exact e2
        have grown : ∀ T ∈ lams, ∃ more : Array Value, s'.heap.get? (tabA K T) = some { cls := .none, data := .fields more } := fun p hp => by
          obtain ⟨more, z⟩ := un.tbls (tabA K p) #[] (hH p hp)
          exact ⟨_, hok' (tabA K p) _ z⟩
        refine ⟨rfl, ⟨fun b o e => ?_, fun b o e => ?_⟩, os, bare⟩
        · by_cases hb : b ∈ lams.map (tabA K)
          · obtain ⟨p, hp, ep⟩ := List.mem_map.mp hb
            obtain ⟨more, hm⟩ := grown p hp
            rw [← ep] at e ⊢
            rw [hT p hp] at e
            cases e
            exact .inr (.inl ⟨((C p hp).tab (hT p hp)).isCodeTable, rfl, #[], more, rfl, by rw [Array.empty_append]; exact hm⟩)
          · exact .inl (key b o hb e)
        · by_cases hb : b ∈ lams.map (tabA K)
          · obtain ⟨p, hp, ep⟩ := List.mem_map.mp hb
            obtain ⟨more, hm⟩ := grown p hp
            rw [← ep]
            exact ⟨_, hm⟩
          · exact ⟨o, key b o hb e⟩
  cases hk : K.lookup a with
  | some o =>
    have e := KX a o hk
    rw [ha] at e
    cases e
    refine core (fun b => if b ∈ lams.map (tabA K) then some (.tbl #[]) else none) (fun p hp => if_pos (memT p hp)) (fun b => ?_) (.inr ⟨vs, _, hk, by rw [List.length_map]; exact hl, rv⟩) (fun b u z => ?_) (fun b z => ?_) fun z => absurd (show (if a ∈ lams.map (tabA K) then some (HO.tbl #[]) else none) = none from if_neg aT) z
    · by_cases hb : b ∈ lams.map (tabA K)
      · exact .inr (.inl hb)
      · exact .inl (if_neg hb)
    · by_cases hb : b ∈ lams.map (tabA K)
      · have z' := (if_pos hb).symm.trans z
        cases z'
        exact isT b hb
      · have z' := (if_neg hb).symm.trans z
        cases z'
    · by_cases hb : b ∈ lams.map (tabA K)
      · exact .inr hb
      · exact absurd (if_neg hb) z
  | none =>
    refine core (fun b => if b = a then some (.frz { cls := .type "list", data := .seq vs.toArray } (.lst (ns.map V.int))) else if b ∈ lams.map (tabA K) then some (.tbl #[]) else none) (fun p hp => (if_neg (show ¬ tabA K p = a from fun z => aT (by rw [← z]; exact memT p hp))).trans (if_pos (memT p hp))) (fun b => ?_)
      (.inl ⟨{ cls := .type "list", data := .seq vs.toArray }, if_pos rfl⟩) (fun b u z => ?_) (fun b z => ?_) fun _ => hk
    · by_cases hb : b = a
      · exact .inr (.inr ⟨_, _, if_pos hb⟩)
      · by_cases hb2 : b ∈ lams.map (tabA K)
        · exact .inr (.inl hb2)
        · exact .inl ((if_neg hb).trans (if_neg hb2))
    · by_cases hb : b = a
      · have z' := (if_pos hb).symm.trans z
        cases z'
        subst hb
        exact ⟨ha, by rw [List.length_map]; exact hl, vs, _, rv, ha⟩
      · have z1 := (if_neg hb).symm.trans z
        by_cases hb2 : b ∈ lams.map (tabA K)
        · have z' := (if_pos hb2).symm.trans z1
          cases z'
          exact isT b hb2
        · have z' := (if_neg hb2).symm.trans z1
          cases z'
    · by_cases hb : b = a
      · exact .inl hb
      · by_cases hb2 : b ∈ lams.map (tabA K)
        · exact .inr hb2
        · exact absurd ((if_neg hb).trans (if_neg hb2)) z
theorem walk_G {l : PySem.W.OpenLaw} {n k : Nat} {q : Program} {loose : List Str} {XP : (Str → Option Value) → Heap → Prop} {YP : World → Heap → Prop} {d : DefRec} {x : Str} {lams : List Str}
    (hn : l.most = some n) (hn2 : n ≤ sizeLine) (hdf : d.params.defaults = []) (hr : Room k callerA) (hq : ∀ T ∈ lams, ((recsOf q).find? fun e => e.name == T).isSome = true)
    (F : ∀ (w : World) (mg : Str → Option Value) (fa : Addr) (h : Heap), YP w h → h.Ns mainGlobals mg → mg d.name = some (.ref fa) →
      ∃ (K : PySem.W.Frag) (fd : FuncData) (g : CallT), K.In h ∧ ((∀ T ∈ lams, lamB K T = true) ∧ (lams.map (tabA K)).Nodup) ∧ (∀ (s : Shared) (u : Value), BindsTo s fd ⟨[u], []⟩ [(x, u)]) ∧
        (∀ (ns : List Int), ns.length ≤ n → (∀ z ∈ ns, Builtin.Int.intBits z ≤ 1048576) → ∀ M : MM, (∀ T ∈ lams, ∃ P, M P = some (.tbl T)) → g [.lst (ns.map D.int)] M (fun d _ => d = .bl true) XF) ∧
        ∀ base : Heap, K.In base → base.Ns mainGlobals mg → (∀ T ∈ lams, LamX.TabB base mg (codA K T) (tabA K T)) → FnG l.prog w K mg base k fa fd [x] g) :
    PySem.W.WalkO q loose XP YP l.row.toRowW d [] (fun f vs => PySem.call f vs) := by
  refine Att.attach_callB hn hdf fun w s₀ s₁ mg mb fa o pm cd doc a vs ns G Y ho hd hcd hmg hobj hints hlen hbits hg => ?_
  obtain ⟨K, fd, g, KX, ⟨hL, nd⟩, hb, hsp, hF⟩ := F w mg fa _ Y G.T.g hmg
  have tf : ∀ T ∈ lams, (PySem.W.CodeHd s₁.heap (codA K T) (tabA K T) ∧ s₁.heap.get? (tabA K T) = some { cls := .none, data := .fields #[] }) ∧ K.lookup (tabA K T) = none := fun T h => by
    have z := hL T h
    unfold lamB at z
    rw [Bool.and_eq_true, decide_eq_true_eq, Option.isNone_iff_eq_none] at z
    obtain ⟨d', hd'⟩ := Option.isSome_iff_exists.mp (hq T h)
    exact ⟨PySem.W.tab_of G.T KX hd' z.1, z.2⟩
  exact law_callG KX G.T.g G.T.b G.T.builtins G.T.nolimit hg (fun T h => (tf T h).1.2) (fun T h => (tf T h).2) (fun T h => (tf T h).1.1) nd G.T.bmain hobj hints (Nat.le_trans hlen hn2) hr hF hb (hsp ns hlen hbits)
end RX
set_option Elab.async false
set_option linter.all false
set_option maxRecDepth 100000
set_option maxHeartbeats 4000000
/-! RX15: a law's data, and what the head's facts make of them. -/
namespace RX
open PySem PySem.Spec PyProof.Rows L2

structure Ent where
  id : FId
  c : CFun
  name : Str
  qual : Str
  st : Stmt
structure Law where
  tab : List Ent
  cls : List Str
  flds : List (Str × Str)
  gcs : List (Str × (Int ⊕ Str))
  kw : List (Str × List Str)
  wd : World
  xt : Xt := Xt.none
  hs : List Ent := []
def Ent.dd (e : Ent) : He.DefD := ⟨e.id, e.name, e.qual, defArgs e.st, defBody e.st, defScope e.st, [], []⟩
def gcD : Int ⊕ Str → D
  | .inl i => .int i
  | .inr x => .str x
def Law.T (L : Law) : FId → Option CFun := fun id => (L.tab.find? fun e => decide (e.id = id)).map (·.c)
def Law.gl (L : Law) : Str → Option D := fun x => match (L.gcs.find? fun g => decide (g.1 = x)).map fun g => gcD g.2 with
  | some d => some d
  | none => (L.xt.gts.find? fun g => decide (g.1 = x)).map fun g => .tup (g.2.map .str)
def Law.fl (L : Law) : Str → Str → Bool := fun C f => decide ((C, f) ∈ L.flds)
def Law.W (L : Law) : Wd := ⟨L.T, L.gl, L.fl, L.kw, L.wd, L.xt⟩
def entFa (e : Ent) : He.Fa := match e.id with
  | (f, none) => .glo f
  | (C, some m) => .meth C m
def gcFa : Str × (Int ⊕ Str) → He.Fa
  | (x, .inl i) => .int x i
  | (x, .inr z) => .str x z
def initN : Str := "__init__"
def Law.fa (L : Law) : List He.Fa := L.tab.map entFa ++ (L.cls.flatMap (fun C => [.glo C, .cls C]) ++ ((L.tab.filterMap fun e => match e.id with
  | (C, some m) => if m = initN then some (.mkr C) else none
  | _ => none) ++ (L.flds.map (fun p => .noat p.1 p.2) ++ (L.gcs.map gcFa ++ (bNames.map .free ++ L.hs.map entFa)))))
def Law.fn (L : Law) : List He.DefD := L.tab.map Ent.dd ++ L.hs.map Ent.dd
theorem fn_at {L : Law} {e : Ent} (he : e ∈ L.tab) : ∃ i : Nat, L.fn[i]? = some e.dd := List.getElem?_of_mem (List.mem_append_left _ (List.mem_map.mpr ⟨e, he, rfl⟩))
theorem fn_hs {L : Law} {e : Ent} (he : e ∈ L.hs) : ∃ i : Nat, L.fn[i]? = some e.dd := List.getElem?_of_mem (List.mem_append_right _ (List.mem_map.mpr ⟨e, he, rfl⟩))
def fnScopeB (N ps : List Str) (sc : Scope) : Bool := (match sc.kind with | .function => true | _ => false) && !sc.isCoroutine && !sc.isGenerator && decide N.Nodup && decide (N.take ps.length = ps) && (ps.all fun x => decide (sc.names.lookup x = some .local) || decide (sc.names.lookup x = some .cell)) && (sc.names.all fun y => match y.2 with | .free => false | _ => true)
theorem fnScope_of {N ps : List Str} {sc : Scope} (h : fnScopeB N ps sc = true) : FnScope N ps sc := by
  unfold fnScopeB at h
  simp only [Bool.and_eq_true, Bool.not_eq_true', List.all_eq_true, Bool.or_eq_true, decide_eq_true_eq] at h
  obtain ⟨⟨⟨⟨⟨⟨h1, h2⟩, h3⟩, h4⟩, h5⟩, h6⟩, h7⟩ := h
  refine ⟨?_, h2, h3, h4, h5, h6, fun y hy e => ?_⟩
  · split at h1
    · assumption
    · cases h1
  · have := h7 y hy
    rw [e] at this
    cases this
theorem len0 {α : Type} (l : List α) (h : l.length = 0) : ∃ _ : Unit, l = [] := ⟨(), List.eq_nil_of_length_eq_zero h⟩
theorem len1 {α : Type} (l : List α) (h : l.length = 1) : ∃ a, l = [a] := match l, h with | [a], _ => ⟨a, rfl⟩
theorem len2 {α : Type} (l : List α) (h : l.length = 2) : ∃ a b, l = [a, b] := match l, h with | [a, b], _ => ⟨a, b, rfl⟩
theorem len3 {α : Type} (l : List α) (h : l.length = 3) : ∃ a b c, l = [a, b, c] := match l, h with | [a, b, c], _ => ⟨a, b, c, rfl⟩
theorem len4 {α : Type} (l : List α) (h : l.length = 4) : ∃ a b c d, l = [a, b, c, d] := match l, h with | [a, b, c, d], _ => ⟨a, b, c, d, rfl⟩
theorem len5 {α : Type} (l : List α) (h : l.length = 5) : ∃ a b c d e, l = [a, b, c, d, e] := match l, h with | [a, b, c, d, e], _ => ⟨a, b, c, d, e, rfl⟩
/-- what is looked at for each def -/
def Law.entB (L : Law) (e : Ent) : Bool := fnScopeB e.c.N e.c.ps (defScope e.st) && mSs L.W e.c.body ⟨e.c.N, defScope e.st, none, e.c.lf⟩ (defBody e.st) && (decide (e.c.lf = "") || (decide (e.id = (e.c.lf, none)) && decide (e.qual = e.c.lf))) && (match e.id with
  | (_, none) => true
  | (C, some _) => decide (C ∈ L.cls))
def Law.fldB (L : Law) : Bool := L.flds.all fun p => decide (p.1 ∈ L.cls)
def Law.kwOf (L : Law) (f : Str) : List (List Str) := (L.kw.filter fun p => decide (p.1 = f)).map (·.2)
/-- how a def's arguments are bound -/
structure EntBd (L : Law) (e : Ent) : Prop where
  bd : ∀ (kV doc pm : Value) (an : Option Addr) (cdv ct : Value) (us : List Value), us.length = e.c.ps.length → bindArgs (PySem.W.fnOf e.name e.qual (defArgs e.st) (defBody e.st) (defScope e.st) .none kV doc pm an cdv ct) ⟨us, []⟩ = pure (e.c.ps.zip us)
  kb : ∀ ks ∈ L.kwOf e.id.1, e.id.2 = none → ∀ (kV doc pm : Value) (an : Option Addr) (cdv ct : Value) (us ws : List Value), us.length + ws.length = e.c.ps.length → ws.length = ks.length →
    bindArgs (PySem.W.fnOf e.name e.qual (defArgs e.st) (defBody e.st) (defScope e.st) .none kV doc pm an cdv ct) ⟨us, ks.zip ws⟩ = pure (e.c.ps.zip (kwArr e.c.ps us ks ws))
section
variable {L : Law} {K : PySem.W.Frag} {h : Heap} {mg : Str → Option Value}
theorem lf_of {e : Ent} (h : (decide (e.c.lf = "") || (decide (e.id = (e.c.lf, none)) && decide (e.qual = e.c.lf))) = true) : e.c.lf ≠ "" → He.fAd K e.id = He.ga K e.c.lf ∧ e.qual = e.c.lf := fun n => by
  simp only [Bool.or_eq_true, Bool.and_eq_true, decide_eq_true_eq] at h
  rcases h with h | ⟨h1, h2⟩
  · exact absurd h n
  · exact ⟨by rw [h1]; rfl, h2⟩
theorem fact_of {fa : List He.Fa} {fn : List He.DefD} (c : He.SaysD fa fn K) {f : He.Fa} (hf : f ∈ fa) : f.ok K = true := by
  obtain ⟨i, hi⟩ := List.getElem?_of_mem hf
  exact c.fact i hi
theorem T_mem {id : FId} {c : CFun} (hc : L.T id = some c) : ∃ e ∈ L.tab, e.id = id ∧ e.c = c := by
  unfold Law.T at hc
  obtain ⟨e, he, e2⟩ := Option.map_eq_some_iff.mp hc
  exact ⟨e, List.mem_of_find?_eq_some he, of_decide_eq_true (List.find?_some (p := fun e : Ent => decide (e.id = id)) he), e2⟩
theorem defIn_of (c : He.SaysD L.fa L.fn K) {e : Ent} (he : e ∈ L.tab) (hb : EntBd L e) (hk : L.entB e = true) : ∃ fd, DefIn K L.W e.c (He.fAd K e.id) fd ∧ PySem.W.keepIn K (.ref (He.fAd K e.id)) = true ∧ (∀ ks, (e.id.1, ks) ∈ L.kw → e.id.2 = none → KwB K fd e.c.ps ks) := by
  obtain ⟨i, hd⟩ := fn_at he
  obtain ⟨fd, F⟩ := c.def_ i hd
  have F' : FunD K e.name e.qual (defArgs e.st) (defBody e.st) (defScope e.st) [] [] (He.fAd K e.id) fd := F
  unfold Law.entB at hk
  simp only [Bool.and_eq_true] at hk
  refine ⟨fd, ⟨⟨_, _, _, _, _, F', fnScope_of hk.1.1.1, hk.1.1.2, lf_of hk.1.2⟩, F'.bindsN hb.bd⟩, F'.kp, fun ks hks hn => ?_⟩
  obtain ⟨oc, od, dV, kV, doc, pm, an, cdv, ct, osl, rfl, lk, hcd, hD, hK⟩ := F'.ex
  rcases hD with ⟨_, rfl⟩ | ⟨e, _⟩
  · exact fun s us ws _ h1 h2 => .of_eq (hb.kb ks (List.mem_map.mpr ⟨_, List.mem_filter.mpr ⟨hks, decide_eq_true rfl⟩, rfl⟩) hn kV doc pm an cdv ct us ws h1 h2)
  · exact absurd rfl e
theorem strsB_ok : ∀ (zs : List Str) (vs : List Value), strsB zs vs = true → Vals (zs.map V.str) vs ∧ vs.length = zs.length
  | [], [], _ => ⟨.nil, rfl⟩
  | [], _ :: _, h => by cases h
  | z :: zs, [], h => by cases h
  | z :: zs, v :: vs, h => by
    unfold strsB at h
    split at h
    · rename_i e1 e2; cases e1
    · rename_i z' zs' x t vs' e1 e2
      cases e1
      cases e2
      rw [Bool.and_eq_true, decide_eq_true_eq] at h
      obtain ⟨rfl, h⟩ := h
      obtain ⟨h1, h2⟩ := strsB_ok _ _ h
      exact ⟨.cons ⟨t, rfl⟩ h1, by simp [h2]⟩
    · cases h
theorem reps_tx {K : PySem.W.Frag} (H : Hp) : ∀ ys : List Str, RepL K H (ys.map D.str) (ys.map V.str)
  | [] => .nil
  | y :: ys => .cons (mk_str y) (reps_tx H ys)
theorem tupB_ok {x : Str} {zs : List Str} (X : K.In h) (G : h.Ns mainGlobals mg) (c : tupB K x zs = true) : ∃ u v, mg x = some u ∧ RelV v u ∧ ∀ H, Rep K H (.tup (zs.map .str)) v := by
  unfold tupB at c
  rw [Bool.and_eq_true, decide_eq_true_eq] at c
  obtain ⟨hz, c⟩ := c
  split at c
  · rename_i a ha
    split at c
    · rename_i o ho
      simp only [Bool.and_eq_true, decide_eq_true_eq, Option.isNone_iff_eq_none] at c
      obtain ⟨c1, c2, c3⟩ := c
      split at c3
      · rename_i vs n hd
        obtain ⟨r1, r2⟩ := strsB_ok _ _ c3
        exact ⟨_, .ref a, PySem.W.mg_of X G ha, rfl, fun H => mk_tup (.inr ⟨o, vs, n, ho, c1, c2, hd, by rw [← Array.length_toList, r2, sizeLine_eq]; omega, r1⟩) (reps_tx H zs)⟩
      · cases c3
    · cases c
  · cases c
theorem ready_of (X : K.In h) (G : h.Ns mainGlobals mg) (c : He.SaysD L.fa L.fn K) (hb : ∀ e ∈ L.tab, EntBd L e) (hk : (L.tab.all L.entB && L.fldB) = true) (hgt : ∀ p ∈ L.xt.gts, tupB K p.1 p.2 = true) : Ready K mg L.W := by
  rw [Bool.and_eq_true] at hk
  obtain ⟨hk, hk2⟩ := hk
  have hkE : ∀ e ∈ L.tab, L.entB e = true := fun e he => List.all_eq_true.mp hk e he
  have clsF : ∀ C ∈ L.cls, mg C = some (.ref (He.ga K C)) ∧ Cls K (He.ga K C) := fun C hC => by
    refine ⟨He.glo_ok X G (fact_of c ?_), He.cls_ok (fact_of c ?_)⟩
    · unfold Law.fa
      refine List.mem_append_right _ (List.mem_append_left _ (List.mem_flatMap.mpr ⟨C, hC, by simp⟩))
    · unfold Law.fa
      refine List.mem_append_right _ (List.mem_append_left _ (List.mem_flatMap.mpr ⟨C, hC, by simp⟩))
  refine ⟨fun f cf hc => ?_, fun C m cf hc => ?_, fun x d hx => ?_, fun C f hf => ?_, fun x hx => ?_⟩
  · obtain ⟨e, he, e1, e2⟩ := T_mem hc
    subst e2
    obtain ⟨fd, Dn, kp, kw⟩ := defIn_of c he (hb e he) (hkE e he)
    rw [e1] at Dn kp kw
    have hm := He.glo_ok X G (x := f) (fact_of c (by
      unfold Law.fa
      refine List.mem_append_left _ (List.mem_map.mpr ⟨e, he, ?_⟩)
      unfold entFa
      rw [e1]))
    exact ⟨_, fd, hm, kp, fun ks hks => kw ks hks rfl, Dn⟩
  · obtain ⟨e, he, e1, e2⟩ := T_mem hc
    subst e2
    have hE := hkE e he
    obtain ⟨fd, Dn, kp, kw⟩ := defIn_of c he (hb e he) hE
    rw [e1] at Dn
    unfold Law.entB at hE
    rw [e1] at hE
    simp only [Bool.and_eq_true] at hE
    have hC : C ∈ L.cls := of_decide_eq_true hE.2
    have hM := He.meth_ok (x := C) (m := m) (fact_of c (by
      unfold Law.fa
      refine List.mem_append_left _ (List.mem_map.mpr ⟨e, he, ?_⟩)
      unfold entFa
      rw [e1]))
    refine ⟨_, fd, (clsF C hC).2, hM, Dn, fun hi => ⟨(clsF C hC).1, ?_⟩⟩
    subst hi
    exact He.mkr_ok (fact_of c (by
      unfold Law.fa
      refine List.mem_append_right _ (List.mem_append_right _ (List.mem_append_left _ (List.mem_filterMap.mpr ⟨e, he, ?_⟩)))
      rw [e1]
      exact if_pos rfl))
  · have hx' : L.gl x = some d := hx
    unfold Law.gl at hx'
    split at hx'
    · rename_i d' hx''
      cases hx'
      have hx' := hx''
      obtain ⟨g, hg, e2⟩ := Option.map_eq_some_iff.mp hx'
      have e1 : g.1 = x := of_decide_eq_true (List.find?_some (p := fun g : Str × (Int ⊕ Str) => decide (g.1 = x)) hg)
      have hmem := List.mem_of_find?_eq_some hg
      have hfa : gcFa g ∈ L.fa := by
        unfold Law.fa
        exact List.mem_append_right _ (List.mem_append_right _ (List.mem_append_right _ (List.mem_append_right _ (List.mem_append_left _ (List.mem_map.mpr ⟨g, hmem, rfl⟩)))))
      obtain ⟨y, v⟩ := g
      have e1 : y = x := e1
      subst e1
      subst e2
      cases v with
      | inl i =>
        obtain ⟨t, ht⟩ := He.int_ok X G (fact_of c hfa)
        exact ⟨_, .int i, ht, ⟨t, rfl⟩, fun H => mk_int i⟩
      | inr z =>
        obtain ⟨t, ht⟩ := He.str_ok X G (fact_of c hfa)
        exact ⟨_, .str z, ht, ⟨t, rfl⟩, fun H => mk_str z⟩
    · obtain ⟨g, hg, e2⟩ := Option.map_eq_some_iff.mp hx'
      have e1 : g.1 = x := of_decide_eq_true (List.find?_some (p := fun g : Str × List Str => decide (g.1 = x)) hg)
      subst e2
      rw [← e1]
      exact tupB_ok X G (hgt g (List.mem_of_find?_eq_some hg))
  · have hf' : (C, f) ∈ L.flds := of_decide_eq_true hf
    have hC : C ∈ L.cls := of_decide_eq_true (List.all_eq_true.mp hk2 (C, f) hf')
    refine ⟨(clsF C hC).2, He.noat_ok (fact_of c ?_)⟩
    unfold Law.fa
    exact List.mem_append_right _ (List.mem_append_right _ (List.mem_append_right _ (List.mem_append_left _ (List.mem_map.mpr ⟨(C, f), hf', rfl⟩))))
  · refine He.free_ok X G (fact_of c ?_)
    unfold Law.fa
    exact List.mem_append_right _ (List.mem_append_right _ (List.mem_append_right _ (List.mem_append_right _ (List.mem_append_right _ (List.mem_append_left _ (List.mem_map.mpr ⟨x, hx, rfl⟩))))))
end
/-- no exceptions are known of -/
theorem xok_none {P : Program} {w : World} {K : PySem.W.Frag} {mg : Str → Option Value} {base : Heap} {k : Nat} : XOk P w K mg base Xt.none k := ⟨fun _ _ h => (nomatch h), fun _ h => (nomatch h), fun _ _ _ h => (nomatch h), fun _ _ _ h => (nomatch h), fun h => (nomatch h), fun _ _ h => (nomatch h), fun _ _ h => (nomatch h), fun _ h => (nomatch h)⟩
/-- the law of the text: its promise from the contracts -/
theorem law_of {L : Law} {K : PySem.W.Frag} {P : Program} {w : World} {h : Heap} {mg : Str → Option Value} {fa : Addr} {e : Ent} {x : Str} {n : Nat} (X : K.In h) (G : h.Ns mainGlobals mg) (c : He.SaysD L.fa L.fn K) (hb : ∀ e ∈ L.tab, EntBd L e) (hk : (L.tab.all L.entB && L.fldB) = true)
    (he : e ∈ L.tab) (hT : L.T e.id = some e.c) (hps : e.c.ps = [x]) (hid : e.id.2 = none) (hfa : mg e.id.1 = some (.ref fa)) (hwd : L.wd = w) (hgt : ∀ p ∈ L.xt.gts, tupB K p.1 p.2 = true) (hX : ∀ base : Heap, K.In base → base.Ns mainGlobals mg → (∀ T ∈ L.xt.lams, LamX.TabB base mg (codA K T) (tabA K T)) → XOk P w K mg base L.xt 1) :
    ∃ fd : FuncData, (∀ (s : Shared) (v : Value), BindsTo s fd ⟨[v], []⟩ [(x, v)]) ∧ ∀ base : Heap, K.In base → base.Ns mainGlobals mg → (∀ T ∈ L.xt.lams, LamX.TabB base mg (codA K T) (tabA K T)) → FnG P w K mg base (n + 1) fa fd [x] (wpF L.T L.gl L.fl L.wd n e.id) := by
  have R := ready_of X G c hb hk hgt
  obtain ⟨⟨f, o⟩, cf, nm, ql, st⟩ := e
  cases hid
  have hT' : L.W.T (f, none) = some cf := hT
  obtain ⟨fd, Dn, kp, kw⟩ := defIn_of c he (hb _ he) (List.all_eq_true.mp (Bool.and_eq_true_iff.mp hk).1 _ he)
  have hm : mg f = some (.ref (He.ga K f)) := He.glo_ok X G (fact_of c (by
    unfold Law.fa
    exact List.mem_append_left _ (List.mem_map.mpr ⟨_, he, rfl⟩)))
  have e2 : fa = He.ga K f := by
    have := hfa.symm.trans hm
    cases this
    rfl
  subst e2
  have hps : cf.ps = [x] := hps
  obtain ⟨i, hi⟩ := fn_at he
  obtain ⟨fd2, F⟩ := c.def_ i hi
  have F' : FunD K nm ql (defArgs st) (defBody st) (defScope st) [] [] (He.ga K f) fd2 := F
  refine ⟨fd2, fun s v => ?_, fun base hb1 hb2 hb3 => ?_⟩
  · have z := FunD.bindsA (ps := cf.ps) F' (hb _ he).bd s [v] (by rw [hps]; rfl)
    rw [hps] at z
    exact z
  · have hE := List.all_eq_true.mp (Bool.and_eq_true_iff.mp hk).1 _ he
    unfold Law.entB at hE
    simp only [Bool.and_eq_true] at hE
    have Dn2 : DefIn K L.W cf (He.ga K f) fd2 := ⟨⟨_, _, _, _, _, F', fnScope_of hE.1.1.1, hE.1.1.2, lf_of (e := ⟨(f, none), cf, nm, ql, st⟩) hE.1.2⟩, F'.bindsN (hb _ he).bd⟩
    have z := ((all_ok (P := P) (w := w) (base := base) R (hX base hb1 hb2 hb3) hwd n).1 (f, none) cf (He.ga K f) fd2 hT' Dn2)
    rw [hps] at z
    exact z
end RX
set_option Elab.async false
set_option linter.all false
set_option maxRecDepth 100000
set_option maxHeartbeats 4000000
/-! RX16: how contracts are shown. -/
namespace RX
open PySem PySem.Spec PyProof.Rows L2
@[irreducible] def Law.cl (L : Law) (n : Nat) : FId → CallT := (wpFF L.T L.gl L.fl L.wd n).1
@[irreducible] def Law.ini (L : Law) (n : Nat) : FId → CallT := (wpFF L.T L.gl L.fl L.wd n).2
@[irreducible] def Law.gx (L : Law) : Str → Option D := L.gl
@[irreducible] def Law.fx (L : Law) : Str → Str → Bool := L.fl
@[irreducible] def Law.wx (L : Law) : World := L.wd
@[irreducible] def Law.px (L : Law) (x : Str) : List Str := match L.T (x, none) with | some c => c.ps | none => (match L.T (x, some "__init__") with | some c => c.ps | none => [])
@[irreducible] def Law.hx (L : Law) (C m : Str) : Bool := (L.T (C, some m)).isSome
@[irreducible] def Law.gm (L : Law) (n : Nat) : Gam := ⟨L.px, L.hx, fun x => L.cl n (x, none), fun C m => L.cl n (C, some m), fun C => L.ini n (C, some "__init__"), L.gx, L.fx, L.wx⟩
theorem Law.gm_eq (L : Law) (n : Nat) : L.gm n = ⟨L.px, L.hx, fun x => L.cl n (x, none), fun C m => L.cl n (C, some m), fun C => L.ini n (C, some "__init__"), L.gx, L.fx, L.wx⟩ := by unfold Law.gm; rfl
theorem Law.stp {L : Law} {n : Nat} {id : FId} {c : CFun} (h : L.T id = some c) : L.cl (n + 1) id = wpBody ⟨L.px, L.hx, fun x => L.cl n (x, none), fun C m => L.cl n (C, some m), fun C => L.ini n (C, some "__init__"), L.gx, L.fx, L.wx⟩ c := by
  unfold Law.cl Law.ini Law.px Law.hx Law.gx Law.fx Law.wx
  show stepF _ _ _ _ _ _ _ = _
  unfold stepF
  rw [h] <;> rfl
theorem Law.ini_s {L : Law} {n : Nat} {id : FId} : L.ini (n + 1) id = L.cl n id := by
  unfold Law.cl Law.ini
  rfl
theorem bT {k : Bool} {A B : Prop} (h : k = true) (a : A) : (k = true → A) ∧ (k = false → B) := And.intro (fun _ => a) (fun z => nomatch h.symm.trans z)
theorem bF {k : Bool} {A B : Prop} (h : k = false) (b : B) : (k = true → A) ∧ (k = false → B) := And.intro (fun z => nomatch h.symm.trans z) (fun _ => b)
def lcStep (g : DG) (tt : DT) (te : DE) (own : List Nat) (σ : DSt) (x : D) (M : MM) (Y : D → MM → Prop) (N : MM → Prop) : Prop := g x (wipeD σ own) M fun σ2 M2 => tt σ2 M2 fun b M3 => Bif b (te σ2 M3 Y) (N M3)
theorem lc_filter {g : DG} {tt : DT} {te : DE} {own : List Nat} {σ : DSt} {Q : List D → MM → Prop} {stab : MM → Prop} {M : MM} (f : D → Option D) (hs : stab M) : ∀ (xs acc : List D), acc.length + xs.length ≤ sizeLine →
    (∀ x ∈ xs, ∀ Y N, (match f x with | some y => Y y M | none => N M) → lcStep g tt te own σ x M Y N) → Q (acc ++ xs.filterMap f) M → lcD stab g tt te own σ Q xs acc M
  | [], acc, _, _, q => by
    rw [List.filterMap_nil, List.append_nil] at q
    exact ⟨hs, q⟩
  | x :: xs, acc, hl, h, q => by
    refine ⟨hs, by simp only [List.length_cons] at hl; omega, h x (List.mem_cons_self ..) _ _ ?_⟩
    cases e : f x with
    | some y =>
      refine lc_filter f hs xs (acc ++ [y]) (by simp only [List.length_cons, List.length_append, List.length_nil] at hl ⊢; omega) (fun x hx => h x (List.mem_cons_of_mem _ hx)) ?_
      rw [List.filterMap_cons_some e] at q
      rw [List.append_assoc]
      exact q
    | none =>
      refine lc_filter f hs xs acc (by simp only [List.length_cons] at hl ⊢; omega) (fun x hx => h x (List.mem_cons_of_mem _ hx)) ?_
      rw [List.filterMap_cons_none e] at q
      exact q
theorem lc_map {g : DG} {tt : DT} {te : DE} {own : List Nat} {σ : DSt} {Q : List D → MM → Prop} {stab : MM → Prop} {M : MM} (f : D → D) (hs : stab M) {xs : List D} (hl : xs.length ≤ sizeLine)
    (h : ∀ x ∈ xs, ∀ Y N, Y (f x) M → lcStep g tt te own σ x M Y N) (q : Q (xs.map f) M) : lcD stab g tt te own σ Q xs [] M := by
  refine lc_filter (fun x => some (f x)) hs xs [] (by simpa using hl) (fun x hx Y N q => h x hx Y N q) ?_
  rw [List.nil_append, List.filterMap_eq_map']
  exact q
end RX
set_option Elab.async false
set_option linter.all false
set_option maxRecDepth 100000
set_option maxHeartbeats 4000000
/-! XT7: a def that calls what it got within try, by the head's facts. -/
namespace RX
open PySem PySem.Spec PyProof.Rows L2 L2H LamX
mutual
/-- it looks at no variable -/
def nvH : HE → Bool
  | .var _ => false
  | .fld _ => true
  | .str _ => true
  | .int _ => true
  | .repr a => nvH a
  | .cat a b => nvH a && nvH b
  | .isi _ _ => true
  | .ifi _ _ a b => nvH a && nvH b
  | .ix a b => nvH a && nvH b
  | .lst es => nvHs es
  | .tup es => nvHs es
  | .hcall _ => true
  | .and a b => nvH a && nvH b
  | .nev => true
def nvHs : HEs → Bool
  | .nil => true
  | .cons e es => nvH e && nvHs es
end
section
variable {hot : List (Str × List (Str × HV))} {C f : Str} {x : D}
mutual
theorem wpH_nv : ∀ (c : HE) {σ σ' : DSt} {M : MM} {Q : DV}, nvH c = true → wpH hot C f x c σ M Q = wpH hot C f x c σ' M Q
  | .var _, σ, σ', M, Q, h => by cases h
  | .fld _, σ, σ', M, Q, h => rfl
  | .str _, σ, σ', M, Q, h => rfl
  | .int _, σ, σ', M, Q, h => rfl
  | .repr a, σ, σ', M, Q, h => by
    show wpH hot C f x a σ M _ = wpH hot C f x a σ' M _
    exact wpH_nv a h
  | .cat a b, σ, σ', M, Q, h => by
    have h : (nvH a && nvH b) = true := h
    rw [Bool.and_eq_true] at h
    show wpH hot C f x a σ M _ = wpH hot C f x a σ' M _
    rw [wpH_nv a (σ := σ) (σ' := σ') h.1]
    exact congrArg _ (funext fun d => funext fun M1 => wpH_nv b h.2)
  | .isi _ _, σ, σ', M, Q, h => rfl
  | .nev, σ, σ', M, Q, h => rfl
  | .ifi _ tab a b, σ, σ', M, Q, h => by
    have h : (nvH a && nvH b) = true := h
    rw [Bool.and_eq_true] at h
    show (∃ k, tab.lookup C = some k ∧ Bif k (wpH hot C f x a σ M Q) (wpH hot C f x b σ M Q)) = ∃ k, tab.lookup C = some k ∧ Bif k (wpH hot C f x a σ' M Q) (wpH hot C f x b σ' M Q)
    rw [wpH_nv a (σ := σ) (σ' := σ') h.1, wpH_nv b (σ := σ) (σ' := σ') h.2]
  | .ix a b, σ, σ', M, Q, h => by
    have h : (nvH a && nvH b) = true := h
    rw [Bool.and_eq_true] at h
    show wpH hot C f x a σ M _ = wpH hot C f x a σ' M _
    rw [wpH_nv a (σ := σ) (σ' := σ') h.1]
    exact congrArg _ (funext fun d => funext fun M1 => wpH_nv b h.2)
  | .lst es, σ, σ', M, Q, h => by
    show wpHs hot C f x es σ M _ = wpHs hot C f x es σ' M _
    exact wpHs_nv es h
  | .tup es, σ, σ', M, Q, h => by
    show wpHs hot C f x es σ M _ = wpHs hot C f x es σ' M _
    exact wpHs_nv es h
  | .hcall _, σ, σ', M, Q, h => rfl
  | .and a b, σ, σ', M, Q, h => by
    have h : (nvH a && nvH b) = true := h
    rw [Bool.and_eq_true] at h
    show wpH hot C f x a σ M _ = wpH hot C f x a σ' M _
    rw [wpH_nv a (σ := σ) (σ' := σ') h.1]
    refine congrArg _ (funext fun d => funext fun M1 => congrArg _ (funext fun k => congrArg _ ?_))
    rw [wpH_nv b (σ := σ) (σ' := σ') h.2]
theorem wpHs_nv : ∀ (c : HEs) {σ σ' : DSt} {M : MM} {Q : List D → MM → Prop}, nvHs c = true → wpHs hot C f x c σ M Q = wpHs hot C f x c σ' M Q
  | .nil, σ, σ', M, Q, h => rfl
  | .cons a as, σ, σ', M, Q, h => by
    have h : (nvH a && nvHs as) = true := h
    rw [Bool.and_eq_true] at h
    show wpH hot C f x a σ M _ = wpH hot C f x a σ' M _
    rw [wpH_nv a (σ := σ) (σ' := σ') h.1]
    exact congrArg _ (funext fun d => funext fun M1 => wpHs_nv as h.2)
end
end
mutual
/-- a suite without the exception's name -/
def m0H : HE → Expr → Bool
  | .str z, e => (match e with
    | .Constant (.str j) _ _ => decide (z = j)
    | _ => false)
  | .lst es, e => (match e with
    | .List xs _ => m0Hs es xs
    | _ => false)
  | _, _ => false
def m0Hs : HEs → List Expr → Bool
  | .nil, l => l.isEmpty
  | .cons a as, l => (match l with
    | x :: xs => nSt x && m0H a x && m0Hs as xs
    | [] => false)
end
section
variable {X : Cx} {B : Bs} {C f : Str} {y : D}
mutual
theorem s0H : ∀ (c : HE) (e : Expr), m0H c e = true → PE X e (LE X.K B fun _ M Q => wpH [] C f y c [] M Q)
  | .str z, e, h => by
    unfold m0H at h
    split at h
    · have e1 := of_decide_eq_true h
      subst e1
      exact le_conv (le_tv pe_str fun H => mk_str z) fun σ M Q q => q
    · cases h
  | .lst es, e, h => by
    unfold m0H at h
    split at h
    · exact le_conv (le_lst (fz := true) (s0Hs es _ h)) fun σ M Q q => q
    · cases h
  | .var _, e, h => by cases h
  | .fld _, e, h => by cases h
  | .int _, e, h => by cases h
  | .repr _, e, h => by cases h
  | .cat _ _, e, h => by cases h
  | .isi _ _, e, h => by cases h
  | .ifi _ _ _ _, e, h => by cases h
  | .ix _ _, e, h => by cases h
  | .tup _, e, h => by cases h
  | .hcall _, e, h => by cases h
  | .and _ _, e, h => by cases h
  | .nev, e, h => by cases h
theorem s0Hs : ∀ (c : HEs) (es : List Expr), m0Hs c es = true → PA X es (LA X.K B fun _ M Q => wpHs [] C f y c [] M Q)
  | .nil, es, h => by
    unfold m0Hs at h
    have e1 := List.isEmpty_iff.mp h
    subst e1
    exact la_conv la_nil fun σ M Q q => q
  | .cons c cs, es, h => by
    unfold m0Hs at h
    split at h
    · simp only [Bool.and_eq_true] at h
      exact la_conv (la_cons (s0H c _ h.1.2) (s0Hs cs _ h.2) (star_cons h.1.1)) fun σ M Q q => q
    · cases h
end
end
def hdClB (xt : Xt) (I : Inf) (all : List Str) : List HCl → List ExceptHandler → Bool
  | [], l => l.isEmpty
  | c :: r, l => (match l with
    | .ExceptHandler (some (.Name Cn _)) on [.Return (some e) _] _ :: hs => decide (c.Cn = Cn) && glB I Cn && (all.all fun C => decide (((C, Cn), decide (C ∈ c.subs)) ∈ xt.ex)) && (match c.on, on with
      | none, none => m0H c.h e
      | some i, some n => decide (I.N[i]? = some n) && decide (I.sc.names.lookup n = some .local) && nvH c.h && mH xt [] c.subs i I c.h e
      | _, _ => false) && hdClB xt I all r hs
    | _ => false)
def hdShB (a : Str) : HF → List Stmt → List Stmt → Bool
  | .told w, bd, tl => (match bd, tl with
    | [.Return (some (.List [.Constant (.str z) _ _, .Call (.Name x _) [] [] _] _)) _], [] => decide (z = w) && decide (x = a)
    | _, _ => false)
  | .drop none, bd, tl => (match bd, tl with
    | [.Expr (.Call (.Name x _) [] [] _) _], [.Return (some (.List [] _)) _] => decide (x = a)
    | _, _ => false)
  | .drop (some z), bd, tl => (match bd, tl with
    | [.Expr (.Call (.Name x _) [] [] _) _], [.Return (some (.Constant (.str y) _ _)) _] => decide (x = a) && decide (y = z)
    | _, _ => false)
theorem hdSh_of {a : Str} {fm : HF} {bd tl : List Stmt} (h : hdShB a fm bd tl = true) : HdSh a fm bd tl := by
  unfold hdShB at h
  split at h
  · split at h
    · rw [Bool.and_eq_true, decide_eq_true_eq, decide_eq_true_eq] at h
      obtain ⟨rfl, rfl⟩ := h
      exact .told ..
    · cases h
  · split at h
    · rw [decide_eq_true_eq] at h
      subst h
      exact .drop0 ..
    · cases h
  · split at h
    · rw [Bool.and_eq_true, decide_eq_true_eq, decide_eq_true_eq] at h
      obtain ⟨rfl, rfl⟩ := h
      exact .dropS ..
    · cases h
/-- what is looked at of such a def -/
def hdB (xt : Xt) (hd : HD) (scope : Scope) (body : List Stmt) : Bool := fnScopeB hd.N [hd.a] scope && !hd.all.isEmpty && !(hd.a == ("__debug__" : Str)) && !(hd.a == ("__classdict__" : Str)) && (match body with
  | .Try bd (h₀ :: hs) [] [] _ :: tl => hdShB hd.a hd.fm bd tl && hdClB xt ⟨hd.N, scope, none, ""⟩ hd.all hd.cl (h₀ :: hs)
  | _ => false)
theorem cls_of {X : Cx} {W : Wd} {p q : FId → CallT} {k : Nat} {I : Inf} {B0 : Bs} {all : List Str} (O : OkW W p q k X I B0 EF0) (hal : all ≠ []) : ∀ (l : List HCl) (hs : List ExceptHandler), hdClB W.xt I all l hs = true → ClsOk X all hs (l.map clzOf)
  | [], hs, h => by
    unfold hdClB at h
    have e := List.isEmpty_iff.mp h
    subst e
    exact .nil
  | ⟨Cc, sb, on', hh⟩ :: r, l, h => by
    unfold hdClB at h
    split at h
    · rename_i Cn np on e rp pos' hs
      simp only [Bool.and_eq_true] at h
      obtain ⟨⟨⟨⟨h1, h2⟩, h3⟩, h4⟩, h5⟩ := h
      have e1 : Cc = Cn := of_decide_eq_true h1
      subst e1
      obtain ⟨g1, g2, _⟩ := gl_of O.o h2
      have hx : ∀ D ∈ all, XbF X.K (He.ga X.K D) ∧ PySem.W.exmOne X.K (.ref (He.ga X.K D)) (.ref (He.ga X.K Cc)) = some (decide (D ∈ sb)) ∧ X.mg Cc = some (.ref (He.ga X.K Cc)) := fun D hD => O.w.xt.ex D Cc _ (of_decide_eq_true (List.all_eq_true.mp h3 D hD))
      obtain ⟨d0, hd0⟩ : ∃ D, D ∈ all := by
        cases all with
        | nil => exact absurd rfl hal
        | cons D r => exact ⟨D, List.mem_cons_self ..⟩
      have hn : Names X Cc (.ref (He.ga X.K Cc)) := ⟨g1, g2, .inl (hx d0 hd0).2.2⟩
      have h3 : ∀ D ∈ all, ((D, Cc), decide (D ∈ sb)) ∈ W.xt.ex := fun D hD => of_decide_eq_true (List.all_eq_true.mp h3 D hD)
      cases on' with
      | none =>
        cases on with
        | some n => cases h4
        | none => exact .bare hn (fun D hD => (hx D hD).2.1) (fun a oe pn C f x dx v B' hot => le_conv (s0H (X := X.suite a ((a, oe) :: pn)) hh e h4) fun _ _ _ z => z.2) (cls_of O hal r hs h5)
      | some i =>
        cases on with
        | none => cases h4
        | some n =>
          have h4 : (decide (I.N[i]? = some n) && decide (I.sc.names.lookup n = some .local) && nvH hh && mH W.xt [] sb i I hh e) = true := h4
          simp only [Bool.and_eq_true] at h4
          obtain ⟨⟨⟨k1, k2⟩, k3⟩, k4⟩ := h4
          refine .named (i := i) (n := n) (by rw [O.o.N]; exact of_decide_eq_true k1) (by show X.env.scope.names.lookup n = _; rw [O.o.sc]; exact of_decide_eq_true k2) hn (fun D hD => (hx D hD).2.1) (fun a oe pn C f x dx v B' hot => ?_) (cls_of O hal r hs h5)
          by_cases hC : C ∈ sb
          · exact le_conv (X := X.suite a ((a, oe) :: pn)) (sH hh (all := all) (pn := pn) (i := i) (subs := sb) (hot := []) ⟨O, fun g tab hg => (nomatch hg), hC, hot⟩ e k4) fun σ M Q ⟨z1, z2⟩ => ⟨z1, by rw [wpH_nv hh (σ' := []) k3]; exact z2.2⟩
          · exact le_conv (X := X.suite a ((a, oe) :: pn)) le_never fun σ M Q ⟨_, z2⟩ => hC z2.1
    · cases h
theorem hdFact {P : Program} {w : World} {K : PySem.W.Frag} {mg : Str → Option Value} {base : Heap} {k : Nat} {x : Str} {hd : HD} {xt : Xt} {params : Arguments} {body : List Stmt} {scope : Scope} {fd : FuncData} (k1 : 1 ≤ k) (F : FunD K x x params body scope [] [] (He.ga K x) fd) (hm : mg x = some (.ref (He.ga K x)))
    (hb : L2.Binds K fd [hd.a] []) (O : XOk P w K mg base xt k) (bn : ∀ x ∈ bNames, mg x = none) (h : hdB xt hd scope body = true) : HdFact P w K mg base k x hd := by
  unfold hdB at h
  simp only [Bool.and_eq_true, Bool.not_eq_true', List.isEmpty_eq_false_iff] at h
  obtain ⟨⟨⟨⟨h1, h2⟩, h3⟩, h4⟩, h5⟩ := h
  have S := fnScope_of h1
  split at h5
  · rename_i bd h₀ hs tp tl
    rw [Bool.and_eq_true] at h5
    obtain ⟨oc, od, dV, kV, doc, pm, an, cdv, ct, osl, rfl, lk, hcd, _, _⟩ := F.ex
    have hv : Vis scope hd.a := by
      rcases S.par hd.a (by simp) with q | q
      · exact .inl q
      · exact .inr (.inl q)
    have h0 : hd.N[0]? = some hd.a := by
      have e := S.pre
      cases hN : hd.N with
      | nil => rw [hN] at e; cases e
      | cons n r =>
        rw [hN] at e
        cases e
        rfl
    let W' : Wd := ⟨fun _ => none, fun _ => none, fun _ _ => false, [], w, xt⟩
    have hW : WOk P w K mg base W' (fun _ _ _ _ _ => False) (fun _ _ _ _ _ => False) k := ⟨fun f c z => (nomatch z), fun C m c z => (nomatch z), fun C c z => (nomatch z), fun x d z => (nomatch z), fun C f z => (nomatch z), bn, O⟩
    have hcl : ∀ (A : Around) (outer : List Env) (s : Shared) (H : Hp), Room k (A.deeper (envOfC x scope s.heap.objs.size (He.ga K x) cdv)) → A.guards = some [] → ClsOk (cxOf C8.CX0 P w K mg base hd.N x scope (He.ga K x) cdv A outer s H C8.E0).nox hd.all (h₀ :: hs) (hd.cl.map clzOf) := fun A outer s H r hg =>
      cls_of (W := W') (p := fun _ _ _ _ _ => False) (q := fun _ _ _ _ _ => False) (k := k) (I := ⟨hd.N, scope, none, ""⟩) (B0 := ((fun _ => none : MM), H)) ⟨⟨rfl, hg, r, rfl, S.nd, rfl, fun _ _ => rfl, PassesOwn.never⟩, hW, rfl, k1, takes_no, fun z => absurd rfl z⟩ h2 hd.cl (h₀ :: hs) h5.2
    refine ⟨⟨He.ga K x, params, bd, tl, h₀, hs, scope, dV, kV, doc, pm, cdv, ct, oc, an, od, osl, tp, hm, F.kp, lk, hcd, hb, S, h0, hv, hdSh_of h5.1, h3, h4, hcl⟩, fun C hC => ?_⟩
    have hz := h5.2
    cases hc : hd.cl with
    | nil => rw [hc] at hz; cases hz
    | cons c r =>
      rw [hc] at hz
      unfold hdClB at hz
      split at hz
      · rename_i e0
        simp only [Bool.and_eq_true] at hz
        exact (O.ex C _ _ (of_decide_eq_true (List.all_eq_true.mp hz.1.1.2 C hC))).1
      · cases hz
  · cases h5
end RX
set_option Elab.async false
set_option linter.all false
set_option maxRecDepth 100000
set_option maxHeartbeats 4000000
/-! XC8: what the head must tell of exception classes. -/
namespace RX
open PySem PySem.Spec PyProof.Rows L2
theorem xbB_ok {K : PySem.W.Frag} {c : Addr} (h : xbB K c = true) : XbF K c := by
  unfold xbB at h
  simp only [Bool.and_eq_true, decide_eq_true_eq, eqV] at h
  obtain ⟨h0, h1, h2, h3, h4, h5, h6, h7, h8, h9, h10⟩ := h
  refine ⟨⟨?_, h1, h2, h3, h4⟩, xfB_ok h5, h6, h7, h8, h9, h10⟩
  split at h0
  · rename_i o ho
    unfold clsObj at h0
    split at h0
    · rename_i t cd k0 k1 k2 k3 n k5 e1 e2 e3
      split at h0
      · rename_i d bm hm
        simp only [Bool.and_eq_true, decide_eq_true_eq, Bool.not_eq_true'] at h0
        obtain ⟨rfl, rfl, rfl, hdel, hdct, hbm⟩ := h0
        obtain ⟨oc, od, dt, osl⟩ := o
        obtain ⟨nm, bs, mro, ns, qn, hd, sn, sb, ab, col, del⟩ := cd
        dsimp only at e1 e2 e3 hm hdel hdct
        subst e1 e2 hm hdel hdct
        obtain ⟨l⟩ := osl
        dsimp only at e3
        subst e3
        exact ⟨nm, qn, ns, bs, bm, sn, sb, ab, col, od, k0, k1, k2, k3, k5, ho, hbm⟩
      · cases h0
    · cases h0
  · cases h0
/-- the text of such an __init__ -/
def IniOk (f : Str) (st : Stmt) : Prop := ∃ p1 p2 r0 r1 r2 r3 r4 q0 q1 q2 q3 : Pos, defArgs st = xiArgs f p1 p2 ∧ defBody st = xiBody f r0 r1 r2 r3 r4 q0 q1 q2 q3 ∧ defScope st = xiScope f ∧ (r2.endLine == r3.line) = true
theorem xcB_ok {P : Program} {K : PySem.W.Frag} {C f : Str} {st : Stmt} (h : xcB K P.main.file C f = true) (e : fnX2 K C = valX2 C st) (i : IniOk f st) (ht : (P.main.scope.names.lookup ("super" : Str)).isSome = false) : XcAt P K C f := by
  unfold xcB at h
  simp only [Bool.and_eq_true, decide_eq_true_eq, eqV] at h
  obtain ⟨h0, h1, h2, h3, h4, h5, h6, h7, h8, h9⟩ := h
  unfold iniB at h5
  unfold fnX2 at e
  cases lk : K.lookup (iniAd K C) with
  | none => rw [lk] at h5; cases h5
  | some o =>
    rw [lk] at h5 e
    obtain ⟨oc, od, dt, osl⟩ := o
    cases dt with
    | func fd =>
      dsimp only at h5 e
      obtain ⟨n1, n2, n3, n4, n5, n6, n7, n8, n9, n10, n11, n12, n13, n14, n15⟩ := fd
      dsimp only at h5 e
      unfold valX2 at e
      simp only [Option.some.injEq, Prod.mk.injEq] at e
      obtain ⟨a1, a2, a3, a4, a5, a6, a7, a8⟩ := e
      subst a1 a2 a3 a4 a5 a6 a8
      obtain ⟨p1, p2, r0, r1, r2, r3, r4, q0, q1, q2, q3, i1, i2, i3, i4⟩ := i
      split at h5
      · rename_i cda cn cc
        simp only [Bool.and_eq_true] at h5
        obtain ⟨k1, k2, k3⟩ := h5
        have a7' : cn = "__class__" := by simpa using a7
        subst a7'
        refine ⟨iniAd K C, cc, cda, ⟨xbB_ok h0, h1, h2, h3, h4, ⟨oc, od, osl, "__init__", C ++ ".__init__", p1, p2, defBody st, n9, n10, n11, n14, n12, ?_, k1, r0, r1, r2, r3, r4, q0, q1, q2, q3, i2, i4⟩, ?_, ?_, h6, h7, h8, h9, ht⟩⟩
        · rw [lk, ← i1, ← i3]
        · cases lc : K.lookup cc with
          | none => rw [lc] at k2; cases k2
          | some o =>
            rw [lc] at k2
            obtain ⟨oc, od, dt, osl⟩ := o
            dsimp only at k2
            split at k2
            · have e := of_decide_eq_true k2
              subst e
              exact ⟨oc, od, osl, rfl⟩
            · cases k2
        · cases lc : K.lookup cda with
          | none => rw [lc] at k3; cases k3
          | some o =>
            rw [lc] at k3
            obtain ⟨oc, od, dt, osl⟩ := o
            dsimp only at k3
            split at k3
            · rename_i vs
              split at k3
              · rename_i z tk hz
                exact ⟨oc, od, vs, osl, z, tk, rfl, hz, k3⟩
              · cases k3
            · cases k3
      · cases h5
    | _ => cases h5
theorem xtB_ok {P : Program} {w : World} {K : PySem.W.Frag} {mg : Str → Option Value} {base h : Heap} {x : Xt} {k : Nat} {sts : List Stmt} (X : K.In h) (G : h.Ns mainGlobals mg) (c : xtB K P.main.file x = true) (hx : x.xc.map (fun p => fnX2 K p.1) = (x.xc.zip sts).map (fun q => valX2 q.1.1 q.2)) (hl : sts.length = x.xc.length)
    (hi : ∀ q ∈ x.xc.zip sts, IniOk q.1.2 q.2) (ht : (P.main.scope.names.lookup ("super" : Str)).isSome = false)
    (hot : ∀ g tab, (g, tab) ∈ x.hot → ∃ fa fd j, j ≤ k ∧ mg g = some (.ref fa) ∧ PySem.W.keepIn K (.ref fa) = true ∧ Binds K fd ["e"] [] ∧ FnX P w K mg base j fa fd tab) (hhd : ∀ g hd, (g, hd) ∈ x.hds → HdFact P w K mg base k g hd) (htb : ∀ T ∈ x.lams, LamX.TabB base mg (codA K T) (tabA K T)) : XOk P w K mg base x k := by
  unfold xtB at c
  simp only [Bool.and_eq_true, List.all_eq_true] at c
  obtain ⟨c0, _, c1, c2, c3, c4⟩ := c
  have xb : ∀ C, (decide (C ∈ x.xc.map (·.1)) || decide (C ∈ x.x0)) = true → XbF K (He.ga K C) := fun C h => by
    rw [Bool.or_eq_true, decide_eq_true_eq, decide_eq_true_eq] at h
    rcases h with h | h
    · obtain ⟨p, hp, rfl⟩ := List.mem_map.mp h
      have z := (c1 p hp).1
      unfold xcB at z
      rw [Bool.and_eq_true] at z
      exact xbB_ok z.1
    · have z := c2 C h
      exact xbB_ok z.1
  refine ⟨fun C f h => ?_, fun C h => ?_, fun C d b h => ?_, fun C D b h => ?_, fun h => by rw [h] at c0; exact c0, hot, hhd, htb⟩
  · obtain ⟨z1, z2⟩ := c1 _ h
    refine ⟨?_, PySem.W.mg_of X G (of_decide_eq_true z2)⟩
    obtain ⟨i, hi1⟩ := List.getElem?_of_mem h
    have hlt : i < x.xc.length := (List.getElem?_eq_some_iff.mp hi1).1
    obtain ⟨st, hst⟩ : ∃ st, sts[i]? = some st := ⟨sts[i]'(by omega), List.getElem?_eq_getElem (by omega)⟩
    have hz : (x.xc.zip sts)[i]? = some ((C, f), st) := by
      rw [List.getElem?_zip_eq_some]
      exact ⟨hi1, hst⟩
    have e2 : (x.xc.map (fun p => fnX2 K p.1))[i]? = ((x.xc.zip sts).map (fun q => valX2 q.1.1 q.2))[i]? := by rw [hx]
    rw [List.getElem?_map, List.getElem?_map, hi1, hz] at e2
    exact xcB_ok z1 (Option.some.inj e2) (hi _ (List.mem_of_getElem? hz)) ht
  · obtain ⟨z1, z2, z3⟩ := c2 C h
    exact ⟨z2, (xbB_ok z1).oc.kC, PySem.W.mg_of X G (of_decide_eq_true z3)⟩
  · obtain ⟨z1, z2, z3⟩ := c3 _ h
    refine ⟨xb C z1, of_decide_eq_true z2, ?_⟩
    cases d with
    | own D => exact PySem.W.mg_of X G (of_decide_eq_true z3)
    | bt n => exact PySem.W.mg_none_of X G (of_decide_eq_true z3)
  · obtain ⟨z1, z2, z3⟩ := c4 _ h
    exact ⟨xb C z1, of_decide_eq_true z2, PySem.W.mg_of X G (of_decide_eq_true z3)⟩
end RX
set_option Elab.async false
set_option linter.all false
set_option maxRecDepth 1000000
set_option maxHeartbeats 4000000
/-! SG1: the defs about signatures, and plain specs. -/
namespace RX
open PySem PySem.Spec PyProof.Rows L2
/-! names -/
def lettersS : Str := "abcdefghijklmnopqrstuvwxyz"
def figuresS : Str := "0123456789"
def restS : Str := "abcdefghijklmnopqrstuvwxyz0123456789_"
def signOk (c : Nat) : Bool := decide (c ∈ restS.cps.toList)
def nameOk (z : Str) : Bool := decide (1 ≤ z.length) && decide (z.length ≤ 12) && (match z.cps.toList with | c :: _ => decide (c ∈ lettersS.cps.toList) | [] => false) && z.cps.toList.all signOk
theorem inS_one (c : Nat) (j : Str) : inS ⟨#[c]⟩ j = decide (c ∈ j.cps.toList) := StrLaws.found_one j c
theorem str_one (c : Nat) : decide ((⟨#[c]⟩ : Str) = "_") = decide (c = 95) := by
  by_cases h : c = 95
  · subst h; rfl
  · have : (⟨#[c]⟩ : Str) ≠ "_" := fun e => h (by
      have h1 : [c] = ("_" : Str).cps.toList := congrArg (fun z : Str => z.cps.toList) e
      have h2 : ("_" : Str).cps.toList = [95] := by decide +kernel
      rw [h2] at h1
      injection h1)
    simp [h, this]
theorem rest_or (c : Nat) : signOk c = (decide (c ∈ lettersS.cps.toList) || (decide (c ∈ figuresS.cps.toList) || decide (c = 95))) := by
  have e : restS.cps.toList = lettersS.cps.toList ++ (figuresS.cps.toList ++ [95]) := by decide +kernel
  unfold signOk
  rw [e]
  simp
/-- the kinds of values that are handed about -/
inductive Tm (M : MM) : D → Prop where
  | non : Tm M .non
  | bl (b : Bool) : Tm M (.bl b)
  | int (i : Int) : Tm M (.int i)
  | str {z : Str} : z.length ≤ 1000 → Tm M (.str z)
  | tup {ds : List D} : ds.length ≤ 1000 → (∀ d ∈ ds, Tm M d) → Tm M (.tup ds)
  | lst {a : Addr} {ds : List D} : M a = some (.lst ds) → Tm M (.ref a)
  | dct {a : Addr} : M a = some (.dct [] []) → Tm M (.ref a)
  | flst (ds : List D) : Tm M (.lst ds)
  | fdct (ks : List Key) (ds : List D) : Tm M (.dct ks ds)
theorem ty_lst {M : MM} {a : Addr} {ds : List D} (h : M a = some (.lst ds)) : tyOf M (.ref a) = some (.bt "list") := by unfold tyOf; simp only [h]
theorem ty_dct {M : MM} {a : Addr} {ks : List Key} {ds : List D} (h : M a = some (.dct ks ds)) : tyOf M (.ref a) = some (.bt "dict") := by unfold tyOf; simp only [h]
theorem atI_nat {α : Type} {xs : List α} {k : Nat} {y : α} (h : xs[k]? = some y) : atI xs (k : Int) = some y := by
  have hk := (List.getElem?_eq_some_iff.mp h).1
  unfold atI ixN
  rw [if_pos (by omega), if_pos (by omega)]
  exact h
theorem atI_0 {α : Type} {x : α} {xs : List α} : atI (x :: xs) 0 = some x := atI_nat (k := 0) rfl
theorem atI_1 {α : Type} {x y : α} {xs : List α} : atI (x :: y :: xs) 1 = some y := atI_nat (k := 1) rfl
theorem atI_2 {α : Type} {x y z : α} {xs : List α} : atI (x :: y :: z :: xs) 2 = some z := atI_nat (k := 2) rfl
def nameD : D → Bool
  | .str z => nameOk z
  | _ => false
theorem rt_ {Q : DV} {d : D} {M : MM} (q : Q d M) : ∃ M'', Sub M'' M ∧ Q d M'' := ⟨M, .refl, q⟩
theorem lc_str {g : DG} {tt : DT} {te : DE} {own : List Nat} {σ : DSt} {Q : List D → MM → Prop} {stab : MM → Prop} {M : MM} {z : Str} (f : Nat → Bool) (hs : stab M) (hl : z.length ≤ sizeLine)
    (h : ∀ c, ∀ Y N, Y (.bl (f c)) M → lcStep g tt te own σ (.str ⟨#[c]⟩) M Y N) (q : Q ((z.cps.toList.map f).map D.bl) M) : lcD stab g tt te own σ Q (strD z) [] M := by
  have e : ∃ F : D → D, (∀ c, F (.str ⟨#[c]⟩) = .bl (f c)) := ⟨fun d => match d with | .str z => .bl (f (z.cps.toList.headD 0)) | _ => .non, fun c => rfl⟩
  obtain ⟨F, hF⟩ := e
  refine lc_map F hs (by unfold strD; rw [List.length_map, Array.length_toList]; exact hl) (fun x hx Y N y => ?_) ?_
  · unfold strD at hx
    obtain ⟨c, _, rfl⟩ := List.mem_map.mp hx
    rw [hF] at y
    exact h c Y N y
  · unfold strD
    rw [List.map_map]
    rw [List.map_map] at q
    have : (F ∘ fun c => D.str ⟨#[c]⟩) = (D.bl ∘ f) := funext fun c => hF c
    rw [this]
    exact q
end RX

namespace RX
open PySem PySem.Spec PyProof.Rows L2
theorem lc_gen {α : Type} {g : DG} {tt : DT} {te : DE} {own : List Nat} {σ : DSt} {Q : List D → MM → Prop} {stab : MM → Prop} {M : MM} (emb : α → D) (f : α → Option D) (hs : stab M) : ∀ (l : List α) (acc : List D), acc.length + l.length ≤ sizeLine →
    (∀ x ∈ l, ∀ Y N, (match f x with | some y => Y y M | none => N M) → lcStep g tt te own σ (emb x) M Y N) → Q (acc ++ l.filterMap f) M → lcD stab g tt te own σ Q (l.map emb) acc M
  | [], acc, _, _, q => by
    rw [List.filterMap_nil, List.append_nil] at q
    exact ⟨hs, q⟩
  | x :: l, acc, hl, h, q => by
    refine ⟨hs, by simp only [List.length_cons] at hl; omega, h x (List.mem_cons_self ..) _ _ ?_⟩
    cases e : f x with
    | some y =>
      refine lc_gen emb f hs l (acc ++ [y]) (by simp only [List.length_cons, List.length_append, List.length_nil] at hl ⊢; omega) (fun x hx => h x (List.mem_cons_of_mem _ hx)) ?_
      rw [List.filterMap_cons_some e] at q
      rw [List.append_assoc]
      exact q
    | none =>
      refine lc_gen emb f hs l acc (by simp only [List.length_cons] at hl ⊢; omega) (fun x hx => h x (List.mem_cons_of_mem _ hx)) ?_
      rw [List.filterMap_cons_none e] at q
      exact q
theorem lc_genM {α : Type} {g : DG} {tt : DT} {te : DE} {own : List Nat} {σ : DSt} {Q : List D → MM → Prop} {stab : MM → Prop} {M : MM} (emb : α → D) (f : α → D) (hs : stab M) {l : List α} (hl : l.length ≤ sizeLine)
    (h : ∀ x ∈ l, ∀ Y N, Y (f x) M → lcStep g tt te own σ (emb x) M Y N) (q : Q (l.map f) M) : lcD stab g tt te own σ Q (l.map emb) [] M := by
  refine lc_gen emb (fun x => some (f x)) hs l [] (by simpa using hl) (fun x hx Y N q => h x hx Y N q) ?_
  rw [List.nil_append, List.filterMap_eq_map']
  exact q
theorem lc_genB {α : Type} {g : DG} {tt : DT} {te : DE} {own : List Nat} {σ : DSt} {Q : List D → MM → Prop} {stab : MM → Prop} {M : MM} (emb : α → D) (f : α → Bool) (hs : stab M) {l : List α} (hl : l.length ≤ sizeLine)
    (h : ∀ x ∈ l, ∀ Y N, Y (.bl (f x)) M → lcStep g tt te own σ (emb x) M Y N) (q : Q ((l.map f).map D.bl) M) : lcD stab g tt te own σ Q (l.map emb) [] M := by
  refine lc_genM emb (fun x => .bl (f x)) hs hl h ?_
  rw [List.map_map] at q
  exact q
/-- while: n turns at most -/
theorem wh_inv {t : DT} {b : DS} {E : DEnds} (I : Nat → DSt → MM → Prop)
    (h : ∀ n (K : DSt → MM → Prop) σ M, (∀ n' σ' M', n = n' + 1 → I n' σ' M' → K σ' M') → I n σ M → t σ M fun c M1 => Bif c (b { E with nx := K, ct := K, bk := E.nx } σ M1) (E.nx σ M1)) : ∀ n σ M, I n σ M → whD t b E (n + 1) σ M
  | 0, σ, M, i => h 0 (whD t b E 0) σ M (fun n' _ _ e => by cases e) i
  | n + 1, σ, M, i => h (n + 1) (whD t b E (n + 1)) σ M (fun n' σ' M' e i' => by cases e; exact wh_inv I h n σ' M' i') i
/-- for: I i before the item i -/
theorem fo_inv {stab : MM → Prop} {g : DG} {b : DS} {E : DEnds} (xs : List D) (I : Nat → DSt → MM → Prop) (hs : ∀ i σ M, I i σ M → stab M)
    (h : ∀ i x, xs[i]? = some x → ∀ (K : DSt → MM → Prop) σ M, I i σ M → (∀ σ' M', I (i + 1) σ' M' → K σ' M') → g x σ M fun σ1 M1 => b { E with nx := K, ct := K, bk := E.nx } σ1 M1)
    (he : ∀ σ M, I xs.length σ M → E.nx σ M) : ∀ (k i : Nat) σ M, k + i = xs.length → I i σ M → forD stab g b E (xs.drop i) σ M
  | 0, i, σ, M, e, hi => by
    have : i = xs.length := by omega
    subst this
    rw [List.drop_length]
    exact ⟨hs _ σ M hi, he σ M hi⟩
  | k + 1, i, σ, M, e, hi => by
    have hl : i < xs.length := by omega
    rw [List.drop_eq_getElem_cons hl]
    exact ⟨hs _ σ M hi, h i _ (List.getElem?_eq_getElem hl) _ σ M hi fun σ' M' hi' => fo_inv xs I hs h he k (i + 1) σ' M' (by omega) hi'⟩
theorem fo_all {stab : MM → Prop} {g : DG} {b : DS} {E : DEnds} {xs : List D} {σ : DSt} {M : MM} (I : Nat → DSt → MM → Prop) (hs : ∀ i σ M, I i σ M → stab M)
    (h : ∀ i x, xs[i]? = some x → ∀ (K : DSt → MM → Prop) σ M, I i σ M → (∀ σ' M', I (i + 1) σ' M' → K σ' M') → g x σ M fun σ1 M1 => b { E with nx := K, ct := K, bk := E.nx } σ1 M1)
    (he : ∀ σ M, I xs.length σ M → E.nx σ M) (i0 : I 0 σ M) : forD stab g b E xs σ M := by
  have := fo_inv xs I hs h he xs.length 0 σ M (by omega) i0
  rwa [List.drop_zero] at this
theorem szA {α : Type} {xs : List α} {B : Prop} (h : decide (xs.length ≤ sizeLine) = true) (b : B) : xs.length ≤ sizeLine ∧ B := ⟨of_decide_eq_true h, b⟩
theorem lc_bl {g : DG} {tt : DT} {te : DE} {own : List Nat} {σ : DSt} {Q : List D → MM → Prop} {stab : MM → Prop} {M : MM} (f : D → Bool) (hs : stab M) {xs : List D} (hl : xs.length ≤ sizeLine)
    (h : ∀ x ∈ xs, ∀ Y N, Y (.bl (f x)) M → lcStep g tt te own σ x M Y N) (q : Q ((xs.map f).map D.bl) M) : lcD stab g tt te own σ Q xs [] M := by
  refine lc_map (fun x => .bl (f x)) hs hl h ?_
  rw [List.map_map] at q
  exact q
theorem all_id {α : Type} (xs : List α) (f : α → Bool) : (xs.map f).all id = xs.all f := by
  induction xs with
  | nil => rfl
  | cons x xs ih => simp only [List.map_cons, List.all_cons, ih, id]
/-! x in (texts) -/
theorem inR_str {M : MM} (z : Str) (zs : List Str) : InR M (.str z) (zs.map D.str) (decide (z ∈ zs)) := .txt rfl rfl
def inSt (zs : List Str) : D → Bool
  | .str z => decide (z ∈ zs)
  | _ => false
theorem Tm.ty {M : MM} {x : D} (t : Tm M x) : (∃ z, x = .str z ∧ z.length ≤ 1000) ∨ ((∀ z, x ≠ .str z) ∧ ∃ n, tyOf M x = some (.bt n) ∧ n ≠ "str") := by
  cases t with
  | str h => exact .inl ⟨_, rfl, h⟩
  | lst h => exact .inr ⟨(fun _ z => nomatch z), "list", ty_lst h, by decide⟩
  | dct h => exact .inr ⟨(fun _ z => nomatch z), "dict", ty_dct h, by decide⟩
  | non => exact .inr ⟨(fun _ z => nomatch z), "NoneType", rfl, by decide⟩
  | bl b => exact .inr ⟨(fun _ z => nomatch z), "bool", rfl, by decide⟩
  | int i => exact .inr ⟨(fun _ z => nomatch z), "int", rfl, by decide⟩
  | tup h1 h2 => exact .inr ⟨(fun _ z => nomatch z), "tuple", rfl, by decide⟩
  | flst ds => exact .inr ⟨(fun _ z => nomatch z), "list", rfl, by decide⟩
  | fdct ks ds => exact .inr ⟨(fun _ z => nomatch z), "dict", rfl, by decide⟩
theorem inR_tm {M : MM} {x : D} (t : Tm M x) (zs : List Str) : InR M x (zs.map D.str) (inSt zs x) := by
  rcases t.ty with ⟨z, e, _⟩ | ⟨h, n, e, hn⟩
  · subst e
    exact inR_str z zs
  · have e2 : inSt zs x = false := by
      unfold inSt
      split
      · exact absurd rfl (h _)
      · rfl
    rw [e2]
    exact .odd e hn rfl
theorem isi_str {n : String} (h : n ≠ "str") : ([Ty.bt "str"].any (isTy (Ty.bt n))) = false := by
  have e : ("str" == "int") = false := by decide
  simp [isTy, h, e]
theorem isi_tup {n : String} (h : n ≠ "tuple") : ([Ty.bt "tuple"].any (isTy (Ty.bt n))) = false := by
  have e : ("tuple" == "int") = false := by decide
  simp [isTy, h, e]
/-- tuple or not -/
theorem Tm.tupOr {M : MM} {x : D} (t : Tm M x) : (∃ ds, x = .tup ds ∧ ds.length ≤ 1000 ∧ ∀ d ∈ ds, Tm M d) ∨ ((∀ ds, x ≠ .tup ds) ∧ ∃ n, tyOf M x = some (.bt n) ∧ n ≠ "tuple") := by
  cases t with
  | tup h1 h2 => exact .inl ⟨_, rfl, h1, h2⟩
  | lst h => exact .inr ⟨(fun _ z => nomatch z), "list", ty_lst h, by decide⟩
  | dct h => exact .inr ⟨(fun _ z => nomatch z), "dict", ty_dct h, by decide⟩
  | non => exact .inr ⟨(fun _ z => nomatch z), "NoneType", rfl, by decide⟩
  | bl b => exact .inr ⟨(fun _ z => nomatch z), "bool", rfl, by decide⟩
  | int i => exact .inr ⟨(fun _ z => nomatch z), "int", rfl, by decide⟩
  | str h => exact .inr ⟨(fun _ z => nomatch z), "str", rfl, by decide⟩
  | flst ds => exact .inr ⟨(fun _ z => nomatch z), "list", rfl, by decide⟩
  | fdct ks ds => exact .inr ⟨(fun _ z => nomatch z), "dict", rfl, by decide⟩
/-! no two the same -/
theorem fold_addS : ∀ (zs L : List Str), (zs.foldl addS L).length ≤ L.length + zs.length ∧ ((zs.foldl addS L).length = L.length + zs.length ↔ zs.Nodup ∧ ∀ z ∈ zs, z ∉ L)
  | [], L => by simp
  | z :: zs, L => by
    obtain ⟨h1, h2⟩ := fold_addS zs (addS L z)
    rw [List.foldl_cons]
    by_cases hz : z ∈ L
    · have e : addS L z = L := by unfold addS; rw [if_pos (by simpa using hz)]
      rw [e] at h1 h2 ⊢
      simp only [List.length_cons]
      refine ⟨by omega, fun k => by omega, fun k => absurd hz (k.2 z (by simp))⟩
    · have e : addS L z = L ++ [z] := by unfold addS; rw [if_neg (by simpa using hz)]
      rw [e] at h1 h2 ⊢
      simp only [List.length_cons, List.length_append, List.length_nil] at h1 h2 ⊢
      refine ⟨by omega, ?_⟩
      have : (List.foldl addS (L ++ [z]) zs).length = L.length + (zs.length + 1) ↔ (List.foldl addS (L ++ [z]) zs).length = L.length + (0 + 1) + zs.length := by omega
      rw [this, h2]
      have m1 : ∀ y : Str, y ∈ L ++ [z] ↔ y ∈ L ∨ y = z := fun y => by simp
      constructor
      · rintro ⟨a, b⟩
        refine ⟨List.nodup_cons.mpr ⟨fun k => b z k ((m1 z).mpr (.inr rfl)), a⟩, fun y hy => ?_⟩
        rcases List.mem_cons.mp hy with e | hy
        · rw [e]; exact hz
        · exact fun k => b y hy ((m1 y).mpr (.inl k))
      · rintro ⟨a, c⟩
        obtain ⟨a, b⟩ := List.nodup_cons.mp a
        refine ⟨b, fun y hy k => ?_⟩
        rcases (m1 y).mp k with k | k
        · exact c y (List.mem_cons_of_mem _ hy) k
        · exact a (k ▸ hy)
theorem dedup_iff (zs : List Str) : (dedup zs).length = zs.length ↔ zs.Nodup := by
  have h := (fold_addS zs []).2
  simp only [List.length_nil, Nat.zero_add] at h
  unfold dedup
  rw [h]
  simp
/-! specs -/
structure Sig where
  kinds : List (Str × Bool)
  makers : List (Str × List Str × Str)
def wordD (b : Bool) : Str := if b then "open" else "closed"
def kP (p : Str × Bool) : D := .tup [.str p.1, .str (wordD p.2)]
def mP (m : Str × List Str × Str) : D := .tup [.str m.1, .tup (m.2.1.map D.str), .str m.2.2]
def sigD (g : Sig) : D := .tup [.tup (g.kinds.map kP), .tup (g.makers.map mP)]
inductive Made (g : Sig) : Str → Prop where
  | opn {k : Str} : (k, true) ∈ g.kinds → Made g k
  | mk {n : Str} {as : List Str} {k : Str} : (n, as, k) ∈ g.makers → (∀ a ∈ as, Made g a) → Made g k

def wordsS : List Str := ["open", "closed"]
def kpD : D → Bool
  | .tup [a, b] => nameD a && inSt wordsS b
  | _ => false
def rowD (ks : List Str) (lo hi : Nat) : D → Bool
  | .tup ds => decide (lo ≤ ds.length) && decide (ds.length ≤ hi) && ds.all (inSt ks)
  | _ => false
def mkD (ks : List Str) : D → Bool
  | .tup [a, b, c] => nameD a && rowD ks 0 3 b && inSt ks c
  | _ => false
end RX
namespace RX.Sg
open PySem PySem.Spec PyProof.Rows L2 RX
def f_is_name : CFun := { ps := ["value"], N := ["value", "sign"], body :=
  (.cons (.ite (.or (.not (.isi (.var 0) [(.bt "str")])) (.or (.not (.chain .LtE .LtE (.int 1) (.fn .len true (.cons (.var 0) .nil)) (.glb "MOST_NAME"))) (.cmp .NotIn (.ix (.var 0) (.int 0)) (.glb "LETTERS")))) (.cons (.ret (.bl false)) .nil) .nil) (.cons (.ret (.fn .all true (.cons (.lc true (.tst (.or (.cmp .In (.var 1) (.glb "LETTERS")) (.or (.cmp .In (.var 1) (.glb "FIGURES")) (.cmp .Eq (.var 1) (.str "_"))))) (.name 1) (.seq (.var 0)) .nil [("sign", 1)]) .nil))) .nil)) }
def f_are_unlike : CFun := { ps := ["values"], N := ["values"], body :=
  (.cons (.ret (.tst (.cmp .Eq (.lenset (.var 0)) (.fn .len true (.cons (.var 0) .nil))))) .nil) }
def f_Signs____init : CFun := { ps := ["self", "signature"], N := ["self", "signature", "kind", "_", "name", "args"], body :=
  (.cons (.setf (.var 0) "words" (.fn .dict true (.cons (.ix (.var 1) (.int 0)) .nil))) (.cons (.setf (.var 0) "kinds" (.lc true (.var 2) (.tup (.cons (.name 2) (.cons (.name 3) .nil))) (.seq (.ix (.var 1) (.int 0))) .nil [("kind", 2), ("_", 3)])) (.cons (.setf (.var 0) "makers" (.dc true (.var 4) (.tup (.cons (.var 5) (.cons (.var 2) .nil))) (.tup (.cons (.name 4) (.cons (.name 5) (.cons (.name 2) .nil)))) (.seq (.ix (.var 1) (.int 1))) [("name", 4), ("args", 5), ("kind", 2)])) (.cons (.setf (.var 0) "of_kind" (.dc true (.var 2) (.lst false .nil) (.name 2) (.seq (.fld (.var 0) "kinds")) [("kind", 2)])) (.cons (.for_ (.tup (.cons (.name 4) (.cons (.name 5) (.cons (.name 2) .nil)))) (.seq (.ix (.var 1) (.int 1))) (.cons (.expr (.bm .append (.ix (.fld (.var 0) "of_kind") (.var 2)) (.cons (.tup (.cons (.var 4) (.cons (.var 5) .nil))) .nil))) .nil)) (.cons (.setf (.var 0) "small" (.lst true .nil)) (.cons (.expr (.meth "find_small" (.var 0) .nil)) .nil))))))) }
def f_Signs__is_open : CFun := { ps := ["self", "kind"], N := ["self", "kind"], body :=
  (.cons (.ret (.tst (.cmp .Eq (.ix (.fld (.var 0) "words") (.var 1)) (.str "open")))) .nil) }
def f_Signs__is_small : CFun := { ps := ["self", "kind"], N := ["self", "kind"], body :=
  (.cons (.ret (.tst (.cmp .In (.var 1) (.fld (.var 0) "small")))) .nil) }
def f_Signs__find_small : CFun := { ps := ["self"], N := ["self", "more", "kind"], body :=
  (.cons (.setLc 1 true (.var 2) (.name 2) (.seq (.fld (.var 0) "kinds")) (.cons (.val (.meth "turns_small" (.var 0) (.cons (.var 2) .nil))) .nil) [("kind", 2)]) (.cons (.while_ (.cmp .NotEq (.var 1) (.lst true .nil)) (.cons (.setf (.var 0) "small" (.bin .Add true (.fld (.var 0) "small") (.var 1))) (.cons (.setLc 1 true (.var 2) (.name 2) (.seq (.fld (.var 0) "kinds")) (.cons (.val (.meth "turns_small" (.var 0) (.cons (.var 2) .nil))) .nil) [("kind", 2)]) .nil))) .nil)) }
def f_Signs__turns_small : CFun := { ps := ["self", "kind"], N := ["self", "kind", "_", "args", "arg"], body :=
  (.cons (.ite (.or (.val (.meth "is_open" (.var 0) (.cons (.var 1) .nil))) (.cmp .In (.var 1) (.fld (.var 0) "small"))) (.cons (.ret (.bl false)) .nil) .nil) (.cons (.ret (.fn .all true (.cons (.lc true (.fn .all true (.cons (.lc true (.tst (.cmp .In (.var 4) (.fld (.var 0) "small"))) (.name 4) (.seq (.var 3)) .nil [("arg", 4)]) .nil)) (.tup (.cons (.name 2) (.cons (.name 3) .nil))) (.seq (.ix (.fld (.var 0) "of_kind") (.var 1))) .nil [("_", 2), ("args", 3)]) .nil))) .nil)) }
def f_is_kind_pair : CFun := { ps := ["value"], N := ["value"], body :=
  (.cons (.ret (.tst (.and (.isi (.var 0) [(.bt "tuple")]) (.and (.cmp .Eq (.fn .len true (.cons (.var 0) .nil)) (.int 2)) (.and (.val (.call "is_name" (.cons (.ix (.var 0) (.int 0)) .nil))) (.cmp .In (.ix (.var 0) (.int 1)) (.tup (.cons (.str "open") (.cons (.str "closed") .nil))))))))) .nil) }
def f_is_kinds_row : CFun := { ps := ["value", "kinds", "least", "most"], N := ["value", "kinds", "least", "most", "each"], body :=
  (.cons (.ite (.or (.not (.isi (.var 0) [(.bt "tuple")])) (.not (.chain .LtE .LtE (.var 2) (.fn .len true (.cons (.var 0) .nil)) (.var 3)))) (.cons (.ret (.bl false)) .nil) .nil) (.cons (.ret (.fn .all true (.cons (.lc true (.tst (.and (.isi (.var 4) [(.bt "str")]) (.cmp .In (.var 4) (.var 1)))) (.name 4) (.seq (.var 0)) .nil [("each", 4)]) .nil))) .nil)) }
def f_is_maker : CFun := { ps := ["value", "kinds"], N := ["value", "kinds"], body :=
  (.cons (.ite (.or (.not (.isi (.var 0) [(.bt "tuple")])) (.or (.cmp .NotEq (.fn .len true (.cons (.var 0) .nil)) (.int 3)) (.not (.val (.call "is_name" (.cons (.ix (.var 0) (.int 0)) .nil)))))) (.cons (.ret (.bl false)) .nil) .nil) (.cons (.ret (.tst (.and (.val (.call "is_kinds_row" (.cons (.ix (.var 0) (.int 1)) (.cons (.var 1) (.cons (.int 0) (.cons (.glb "MOST_ARGS") .nil)))))) (.and (.isi (.ix (.var 0) (.int 2)) [(.bt "str")]) (.cmp .In (.ix (.var 0) (.int 2)) (.var 1)))))) .nil)) }
def f_made_kinds : CFun := { ps := ["signature"], N := ["signature", "found", "kind", "word", "more", "fresh", "_", "args", "arg"], body :=
  (.cons (.asg (.name 1) (.lc true (.var 2) (.tup (.cons (.name 2) (.cons (.name 3) .nil))) (.seq (.ix (.var 0) (.int 0))) (.cons (.cmp .Eq (.var 3) (.str "open")) .nil) [("kind", 2), ("word", 3)])) (.cons (.asg (.name 4) (.bl true)) (.cons (.while_ (.val (.var 4)) (.cons (.setLc 5 true (.var 2) (.tup (.cons (.name 6) (.cons (.name 7) (.cons (.name 2) .nil)))) (.seq (.ix (.var 0) (.int 1))) (.cons (.and (.cmp .NotIn (.var 2) (.var 1)) (.val (.fn .all true (.cons (.lc true (.tst (.cmp .In (.var 8) (.var 1))) (.name 8) (.seq (.var 7)) .nil [("arg", 8)]) .nil)))) .nil) [("_", 6), ("args", 7), ("kind", 2)]) (.cons (.asg (.name 1) (.bin .Add true (.var 1) (.var 5))) (.cons (.asg (.name 4) (.tst (.cmp .NotEq (.var 5) (.lst true .nil)))) .nil)))) (.cons (.ret (.var 1)) .nil)))) }
def f_is_signature_by : CFun := { ps := ["value"], N := ["value", "part", "pair", "kinds", "kind", "_", "each", "maker", "made"], body :=
  (.cons (.ite (.or (.not (.isi (.var 0) [(.bt "tuple")])) (.or (.cmp .NotEq (.fn .len true (.cons (.var 0) .nil)) (.int 2)) (.not (.val (.fn .all true (.cons (.lc true (.tst (.isi (.var 1) [(.bt "tuple")])) (.name 1) (.seq (.var 0)) .nil [("part", 1)]) .nil)))))) (.cons (.ret (.bl false)) .nil) .nil) (.cons (.ite (.or (.not (.chain .LtE .LtE (.int 1) (.fn .len true (.cons (.ix (.var 0) (.int 0)) .nil)) (.glb "MOST_KINDS"))) (.not (.val (.fn .all true (.cons (.lc true (.call "is_kind_pair" (.cons (.var 2) .nil)) (.name 2) (.seq (.ix (.var 0) (.int 0))) .nil [("pair", 2)]) .nil))))) (.cons (.ret (.bl false)) .nil) .nil) (.cons (.asg (.name 3) (.lc true (.var 4) (.tup (.cons (.name 4) (.cons (.name 5) .nil))) (.seq (.ix (.var 0) (.int 0))) .nil [("kind", 4), ("_", 5)])) (.cons (.ite (.or (.not (.val (.call "are_unlike" (.cons (.var 3) .nil)))) (.or (.cmp .Gt (.fn .len true (.cons (.ix (.var 0) (.int 1)) .nil)) (.glb "MOST_MAKERS")) (.not (.val (.fn .all true (.cons (.lc true (.call "is_maker" (.cons (.var 6) (.cons (.var 3) .nil))) (.name 6) (.seq (.ix (.var 0) (.int 1))) .nil [("each", 6)]) .nil)))))) (.cons (.ret (.bl false)) .nil) .nil) (.cons (.ite (.not (.val (.call "are_unlike" (.cons (.lc true (.ix (.var 7) (.int 0)) (.name 7) (.seq (.ix (.var 0) (.int 1))) .nil [("maker", 7)]) .nil)))) (.cons (.ret (.bl false)) .nil) .nil) (.cons (.asg (.name 8) (.call "made_kinds" (.cons (.var 0) .nil))) (.cons (.ret (.fn .all true (.cons (.lc true (.tst (.cmp .In (.var 4) (.var 8))) (.name 4) (.seq (.var 3)) .nil [("kind", 4)]) .nil))) .nil))))))) }
def f_check_signature : CFun := { ps := ["value"], N := ["value"], body :=
  (.cons (.ite (.not (.val (.call "is_signature_by" (.cons (.var 0) .nil)))) (.cons .never .nil) .nil) (.cons (.ret (.make "Signs" (.cons (.var 0) .nil))) .nil)) }
def f_check_kind : CFun := { ps := ["signs", "value"], N := ["signs", "value"], body :=
  (.cons (.ite (.or (.not (.isi (.var 1) [(.bt "str")])) (.cmp .NotIn (.var 1) (.fld (.var 0) "kinds"))) (.cons .never .nil) .nil) .nil) }
def f_is_signature : CFun := { ps := ["value"], N := ["value"], body :=
  (.cons (.ret (.call "is_signature_by" (.cons (.var 0) .nil))) .nil) }
def f_is_small : CFun := { ps := ["signature", "kind"], N := ["signature", "kind", "signs"], body :=
  (.cons (.asg (.name 2) (.call "check_signature" (.cons (.var 0) .nil))) (.cons (.expr (.call "check_kind" (.cons (.var 2) (.cons (.var 1) .nil)))) (.cons (.ret (.meth "is_small" (.var 2) (.cons (.var 1) .nil))) .nil))) }
end RX.Sg
set_option Elab.async false
set_option linter.all false
set_option maxRecDepth 1000000
set_option maxHeartbeats 0
/-! the law's data, printed by gen.py -/
namespace RX.Lawk55
open PySem PySem.Spec PyProof.Rows L2 RX
def f_is_name : CFun := { ps := ["value"], N := ["value", "sign"], body :=
  (.cons (.ite (.or (.not (.isi (.var 0) [(.bt "str")])) (.or (.not (.chain .LtE .LtE (.int 1) (.fn .len true (.cons (.var 0) .nil)) (.glb "MOST_NAME"))) (.cmp .NotIn (.ix (.var 0) (.int 0)) (.glb "LETTERS")))) (.cons (.ret (.bl false)) .nil) .nil) (.cons (.ret (.fn .all true (.cons (.lc true (.tst (.or (.cmp .In (.var 1) (.glb "LETTERS")) (.or (.cmp .In (.var 1) (.glb "FIGURES")) (.cmp .Eq (.var 1) (.str "_"))))) (.name 1) (.seq (.var 0)) .nil [("sign", 1)]) .nil))) .nil)) }
def e_is_name : Ent := ⟨("is_name", none), f_is_name, "is_name", "is_name", top 12⟩
def f_is_run_sign : CFun := { ps := ["sign"], N := ["sign"], body :=
  (.cons (.ret (.tst (.or (.cmp .In (.var 0) (.glb "LETTERS")) (.or (.cmp .In (.var 0) (.glb "FIGURES")) (.cmp .Eq (.var 0) (.str "_")))))) .nil) }
def e_is_run_sign : Ent := ⟨("is_run_sign", none), f_is_run_sign, "is_run_sign", "is_run_sign", top 27⟩
def f_words_of : CFun := { ps := ["row"], N := ["row", "found", "run", "sign", "each"], body :=
  (.cons (.par2 1 2 (.lst false .nil) (.str "")) (.cons (.for_ (.name 3) (.seq (.var 0)) (.cons (.ite (.val (.call "is_run_sign" (.cons (.var 3) .nil))) (.cons (.asg (.name 2) (.bin .Add true (.var 2) (.var 3))) .nil) (.cons (.expr (.bm .extend (.var 1) (.cons (.lc true (.var 4) (.name 4) (.seq (.tup (.cons (.var 2) (.cons (.var 3) .nil)))) (.cons (.cmp .NotIn (.var 4) (.tup (.cons (.str "") (.cons (.str " ") .nil)))) .nil) [("each", 4)]) .nil))) (.cons (.asg (.name 2) (.str "")) .nil))) .nil)) (.cons (.ret (.ifx (.cmp .NotEq (.var 2) (.str "")) (.lst true (.star (.var 1) (.cons (.var 2) .nil))) (.var 1))) .nil))) }
def e_words_of : Ent := ⟨("words_of", none), f_words_of, "words_of", "words_of", top 28⟩
def f_rows_in : CFun := { ps := ["text"], N := ["text"], body :=
  (.cons (.ret (.ifx (.cmp .NotEq (.var 0) (.str "")) (.bm .split (.var 0) (.cons (.str "\n") .nil)) (.lst true .nil))) .nil) }
def e_rows_in : Ent := ⟨("rows_in", none), f_rows_in, "rows_in", "rows_in", top 29⟩
def f_Words____init : CFun := { ps := ["self", "row", "words"], N := ["self", "row", "words"], body :=
  (.cons (.setf (.var 0) "row" (.var 1)) (.cons (.setf (.var 0) "words" (.var 2)) (.cons (.setf (.var 0) "at" (.int 0)) .nil))) }
def e_Words____init : Ent := ⟨("Words", some "__init__"), f_Words____init, "__init__", "Words.__init__", meth (top 31) 0⟩
def f_Words__word : CFun := { ps := ["self"], N := ["self"], body :=
  (.cons (.ret (.ifx (.cmp .Lt (.fld (.var 0) "at") (.fn .len true (.cons (.fld (.var 0) "words") .nil))) (.ix (.fld (.var 0) "words") (.fld (.var 0) "at")) (.str ""))) .nil) }
def e_Words__word : Ent := ⟨("Words", some "word"), f_Words__word, "word", "Words.word", meth (top 31) 1⟩
def f_Words__take : CFun := { ps := ["self", "word"], N := ["self", "word"], body :=
  (.cons (.ite (.cmp .NotEq (.meth "word" (.var 0) .nil) (.var 1)) (.cons .never .nil) .nil) (.cons (.setf (.var 0) "at" (.bin .Add true (.fld (.var 0) "at") (.int 1))) .nil)) }
def e_Words__take : Ent := ⟨("Words", some "take"), f_Words__take, "take", "Words.take", meth (top 31) 3⟩
def f_Words__choose : CFun := { ps := ["self", "words"], N := ["self", "words", "found"], body :=
  (.cons (.asg (.name 2) (.meth "word" (.var 0) .nil)) (.cons (.ite (.cmp .NotIn (.var 2) (.var 1)) (.cons .never .nil) .nil) (.cons (.setf (.var 0) "at" (.bin .Add true (.fld (.var 0) "at") (.int 1))) (.cons (.ret (.var 2)) .nil)))) }
def e_Words__choose : Ent := ⟨("Words", some "choose"), f_Words__choose, "choose", "Words.choose", meth (top 31) 4⟩
def f_Words__fresh : CFun := { ps := ["self", "told"], N := ["self", "told", "found"], body :=
  (.cons (.asg (.name 2) (.meth "word" (.var 0) .nil)) (.cons (.ite (.or (.not (.val (.call "is_name" (.cons (.var 2) .nil)))) (.cmp .In (.var 2) (.var 1))) (.cons .never .nil) .nil) (.cons (.setf (.var 0) "at" (.bin .Add true (.fld (.var 0) "at") (.int 1))) (.cons (.ret (.var 2)) .nil)))) }
def e_Words__fresh : Ent := ⟨("Words", some "fresh"), f_Words__fresh, "fresh", "Words.fresh", meth (top 31) 5⟩
def f_Words__end : CFun := { ps := ["self"], N := ["self"], body :=
  (.cons (.ite (.cmp .Lt (.fld (.var 0) "at") (.fn .len true (.cons (.fld (.var 0) "words") .nil))) (.cons .never .nil) .nil) .nil) }
def e_Words__end : Ent := ⟨("Words", some "end"), f_Words__end, "end", "Words.end", meth (top 31) 7⟩
def f_Reader____init : CFun := { ps := ["self"], N := ["self"], body :=
  (.cons (.setf (.var 0) "kinds" (.dct false .nil .nil)) (.cons (.setf (.var 0) "makers" (.dct false .nil .nil)) (.cons (.setf (.var 0) "templates" (.dct false .nil .nil)) (.cons (.setf (.var 0) "units" (.dct false .nil .nil)) .nil)))) }
def e_Reader____init : Ent := ⟨("Reader", some "__init__"), f_Reader____init, "__init__", "Reader.__init__", meth (top 180) 0⟩
def f_Reader__has_room : CFun := { ps := ["self", "sort"], N := ["self", "sort", "template", "unit", "lots", "lot", "most"], body :=
  (.cons (.ite (.cmp .Eq (.var 1) (.str "case")) (.cons .never .nil) .nil) (.cons (.ite (.cmp .Eq (.var 1) (.str "see")) (.cons (.ret (.tst (.cmp .NotEq (.fld (.var 0) "units") (.dct true .nil .nil)))) .nil) .nil) (.cons (.ite (.cmp .Eq (.var 1) (.str "root")) (.cons .never .nil) .nil) (.cons (.asg (.name 4) (.dcs ["kind", "make", "template", "unit"] (.cons (.tup (.cons (.fld (.var 0) "kinds") (.cons (.glb "MOST_KINDS") .nil))) (.cons (.tup (.cons (.fld (.var 0) "makers") (.cons (.glb "MOST_MAKERS") .nil))) (.cons (.tup (.cons (.fld (.var 0) "templates") (.cons (.glb "MOST_DEFINITIONS") .nil))) (.cons (.tup (.cons (.fld (.var 0) "units") (.cons (.glb "MOST_UNITS") .nil))) .nil)))))) (.cons (.asg (.tup (.cons (.name 5) (.cons (.name 6) .nil))) (.ix (.var 4) (.var 1))) (.cons (.ret (.tst (.cmp .Lt (.fn .len true (.cons (.var 5) .nil)) (.var 6)))) .nil)))))) }
def e_Reader__has_room : Ent := ⟨("Reader", some "has_room"), f_Reader__has_room, "has_room", "Reader.has_room", meth (top 180) 4⟩
def f_Reader__read : CFun := { ps := ["self", "words"], N := ["self", "words", "sort"], body :=
  (.cons (.asg (.name 2) (.meth "word" (.var 1) .nil)) (.cons (.ite (.or (.cmp .NotIn (.var 2) (.glb "SORTS")) (.not (.val (.meth "has_room" (.var 0) (.cons (.var 2) .nil))))) (.cons .never .nil) .nil) (.cons (.expr (.meth "take" (.var 1) (.cons (.var 2) .nil))) (.cons (.ite (.cmp .In (.var 2) (.tup (.cons (.str "kind") (.cons (.str "make") (.cons (.str "template") .nil))))) (.cons (.expr (.meth "read_named" (.var 0) (.cons (.var 1) (.cons (.var 2) .nil)))) .nil) (.cons (.ite (.cmp .Eq (.var 2) (.str "case")) (.cons .never .nil) (.cons (.ite (.cmp .Eq (.var 2) (.str "unit")) (.cons .never .nil) (.cons (.ite (.cmp .Eq (.var 2) (.str "see")) (.cons .never .nil) (.cons .never .nil)) .nil)) .nil)) .nil)) (.cons (.expr (.meth "end" (.var 1) .nil)) .nil))))) }
def e_Reader__read : Ent := ⟨("Reader", some "read"), f_Reader__read, "read", "Reader.read", meth (top 180) 5⟩
def f_Reader__read_named : CFun := { ps := ["self", "words", "sort"], N := ["self", "words", "sort", "name", "least", "most", "kinds", "result"], body :=
  (.cons (.ite (.cmp .Eq (.var 2) (.str "kind")) (.cons (.asg (.name 3) (.meth "fresh" (.var 1) (.cons (.fld (.var 0) "kinds") .nil))) (.cons (.asg (.sub (.fld (.var 0) "kinds") (.var 3)) (.meth "choose" (.var 1) (.cons (.tup (.cons (.str "open") (.cons (.str "closed") .nil))) .nil))) (.cons .retN .nil))) .nil) (.cons (.asg (.name 3) (.meth "fresh" (.var 1) (.cons (.lst true (.starD (.fld (.var 0) "makers") (.starD (.fld (.var 0) "templates") .nil))) .nil))) (.cons (.asg (.tup (.cons (.name 4) (.cons (.name 5) .nil))) (.ifx (.cmp .Eq (.var 2) (.str "make")) (.tup (.cons (.int 0) (.cons (.glb "MOST_ARGS") .nil))) (.tup (.cons (.int 1) (.cons (.glb "MOST_PARAMS_tablework") .nil))))) (.cons (.asg (.name 6) (.meth "kinds_from" (.var 0) (.cons (.var 1) (.cons (.var 4) (.cons (.var 5) .nil))))) (.cons (.asg (.name 7) (.meth "choose" (.var 1) (.cons (.fld (.var 0) "kinds") .nil))) (.cons (.ite (.cmp .Eq (.var 2) (.str "make")) (.cons (.asg (.sub (.fld (.var 0) "makers") (.var 3)) (.tup (.cons (.var 6) (.cons (.var 7) .nil)))) .nil) (.cons .never .nil)) .nil)))))) }
def e_Reader__read_named : Ent := ⟨("Reader", some "read_named"), f_Reader__read_named, "read_named", "Reader.read_named", meth (top 180) 6⟩
def f_Reader__kinds_from : CFun := { ps := ["self", "words", "least", "most"], N := ["self", "words", "least", "most", "found"], body :=
  (.cons (.expr (.meth "take" (.var 1) (.cons (.str "(") .nil))) (.cons (.asg (.name 4) (.lst false .nil)) (.cons (.ite (.or (.cmp .Gt (.var 2) (.int 0)) (.cmp .NotEq (.meth "word" (.var 1) .nil) (.str ")"))) (.cons (.expr (.bm .append (.var 4) (.cons (.meth "choose" (.var 1) (.cons (.fld (.var 0) "kinds") .nil)) .nil))) (.cons (.while_ (.and (.cmp .Lt (.fn .len true (.cons (.var 4) .nil)) (.var 3)) (.cmp .Eq (.meth "word" (.var 1) .nil) (.str ","))) (.cons (.expr (.meth "take" (.var 1) (.cons (.str ",") .nil))) (.cons (.expr (.bm .append (.var 4) (.cons (.meth "choose" (.var 1) (.cons (.fld (.var 0) "kinds") .nil)) .nil))) .nil))) .nil)) .nil) (.cons (.expr (.meth "take" (.var 1) (.cons (.str ")") .nil))) (.cons (.ret (.fn .tuple true (.cons (.var 4) .nil))) .nil))))) }
def e_Reader__kinds_from : Ent := ⟨("Reader", some "kinds_from"), f_Reader__kinds_from, "kinds_from", "Reader.kinds_from", meth (top 180) 7⟩
def f_reader_of : CFun := { ps := ["text"], N := ["text", "reader", "index", "row", "words"], body :=
  (.cons (.asg (.name 1) (.make "Reader" .nil)) (.cons (.for_ (.tup (.cons (.name 2) (.cons (.name 3) .nil))) (.enum (.call "rows_in" (.cons (.var 0) .nil))) (.cons (.asg (.name 4) (.call "words_of" (.cons (.var 3) .nil))) (.cons (.ite (.cmp .NotEq (.var 4) (.lst true .nil)) (.cons (.expr (.meth "read" (.var 1) (.cons (.make "Words" (.cons (.var 2) (.cons (.var 4) .nil))) .nil))) .nil) .nil) .nil))) (.cons (.ret (.var 1)) .nil))) }
def e_reader_of : Ent := ⟨("reader_of", none), f_reader_of, "reader_of", "reader_of", top 181⟩
def f_with_row : CFun := { ps := ["console", "words"], N := ["console", "words", "state", "earlier", "text", "e"], body :=
  (.cons (.asg (.tup (.cons (.name 2) (.cons (.name 3) .nil))) (.var 0)) (.cons (.asg (.name 4) (.bm .join (.str "\n") (.cons (.lst true (.star (.call "rows_in" (.cons (.var 2) .nil)) (.cons (.bm .join (.str " ") (.cons (.var 1) .nil)) .nil))) .nil))) (.cons (.try1 ["TemplateError", "InvalidText", "InvalidLines"] "InvalidText" ["InvalidText"] 5 [] (.cons (.expr (.call "reader_of" (.cons (.var 4) .nil))) .nil) .nev) (.cons (.ret (.tup (.cons (.tup (.cons (.var 4) (.cons (.slc true (.tup (.star (.var 3) (.cons (.var 2) .nil))) (.yes (.neg (.glb "MOST_EARLIER"))) .no) .nil))) (.cons (.str "taken") .nil)))) .nil)))) }
def e_with_row : Ent := ⟨("with_row", none), f_with_row, "with_row", "with_row", top 187⟩
def f_said_by : CFun := { ps := ["console", "line"], N := ["console", "line", "words"], body :=
  (.cons (.asg (.name 2) (.call "words_of" (.cons (.var 1) .nil))) (.cons (.ite (.or (.cmp .In (.str "\n") (.var 1)) (.cmp .Eq (.var 2) (.lst true .nil))) (.cons (.ret (.tup (.cons (.var 0) (.cons (.glb "NOT_UNDERSTOOD") .nil)))) .nil) .nil) (.cons (.ite (.cmp .In (.ix (.var 2) (.int 0)) (.glb "SORTS")) (.cons (.ret (.call "with_row" (.cons (.var 0) (.cons (.var 2) .nil)))) .nil) .nil) (.cons (.ite (.cmp .In (.ix (.var 2) (.int 0)) (.glb "ASKS")) (.cons .never .nil) .nil) (.cons (.ite (.or (.cmp .NotIn (.ix (.var 2) (.int 0)) (.glb "ALONE")) (.cmp .Gt (.fn .len true (.cons (.var 2) .nil)) (.int 1))) (.cons (.ret (.tup (.cons (.var 0) (.cons (.glb "NOT_UNDERSTOOD") .nil)))) .nil) .nil) (.cons (.ite (.cmp .Eq (.ix (.var 2) (.int 0)) (.str "back")) (.cons .never .nil) .nil) (.cons (.ret (.tup (.cons (.var 0) (.cons (.ifx (.cmp .Eq (.ix (.var 2) (.int 0)) (.str "show")) .nevE (.fn .str true (.cons (.fn .len true (.cons (.call "rows_in" (.cons (.ix (.var 0) (.int 0)) .nil)) .nil)) .nil))) .nil)))) .nil))))))) }
def e_said_by : Ent := ⟨("said_by", none), f_said_by, "said_by", "said_by", top 191⟩
def f_fresh_console : CFun := { ps := [], N := [], body :=
  (.cons (.ret (.tup (.cons (.str "") (.cons (.tup .nil) .nil)))) .nil) }
def e_fresh_console : Ent := ⟨("fresh_console", none), f_fresh_console, "fresh_console", "fresh_console", top 194⟩
def f_said : CFun := { ps := ["console", "line"], N := ["console", "line"], body :=
  (.cons (.ite (.not (.isi (.var 1) [(.bt "str")])) (.cons (.raise "InvalidLines" "index" false .non) .nil) .nil) (.cons (.ret (.call "said_by" (.cons (.var 0) (.cons (.var 1) .nil)))) .nil)) }
def e_said : Ent := ⟨("said", none), f_said, "said", "said", top 195⟩
def f_told_all : CFun := { ps := ["console", "lines"], N := ["console", "lines", "index", "line", "found", "answer"], body :=
  (.cons (.ite (.or (.not (.isi (.var 1) [(.bt "tuple")])) (.cmp .Gt (.fn .len true (.cons (.var 1) .nil)) (.glb "MOST_LINES"))) (.cons (.raise "InvalidLines" "index" false .non) .nil) .nil) (.cons (.for_ (.tup (.cons (.name 2) (.cons (.name 3) .nil))) (.enum (.var 1)) (.cons (.ite (.not (.isi (.var 3) [(.bt "str")])) (.cons (.raise "InvalidLines" "index" false (.var 2)) .nil) .nil) .nil)) (.cons (.asg (.name 4) (.lst false .nil)) (.cons (.for_ (.name 3) (.seq (.var 1)) (.cons (.asg (.tup (.cons (.name 0) (.cons (.name 5) .nil))) (.call "said_by" (.cons (.var 0) (.cons (.var 3) .nil)))) (.cons (.expr (.bm .append (.var 4) (.cons (.var 5) .nil))) .nil))) (.cons (.ret (.tup (.cons (.var 0) (.cons (.fn .tuple true (.cons (.var 4) .nil)) .nil)))) .nil))))) }
def e_told_all : Ent := ⟨("told_all", none), f_told_all, "told_all", "told_all", top 196⟩
def f_law_well : CFun := { ps := ["script", "lap"], N := ["script", "lap", "mixed", "cell", "own"], body :=
  (.cons (.asg (.name 2) (.bin .Add true (.int 71237) (.bin .Mult true (.int 8009) (.var 1)))) (.cons (.for_ (.name 3) (.seq (.slc true (.var 0) .no (.yes (.int 12)))) (.cons (.asg (.name 2) (.bin .Mod true (.fn .int true (.cons (.bin .Add true (.bin .Add true (.bin .Mult true (.var 2) (.int 40169)) (.bin .Mult true (.bin .Mod true (.fn .int true (.cons (.var 3) .nil)) (.int 2147483543)) (.int 19))) (.int 29)) .nil)) (.int 2147483543))) .nil)) (.cons (.asg (.name 4) (.ifx (.cmp .Lt (.var 1) (.fn .len true (.cons (.var 0) .nil))) (.fn .int true (.cons (.ix (.var 0) (.var 1)) .nil)) (.int 0))) (.cons (.asg (.name 2) (.bin .Mod true (.fn .int true (.cons (.bin .Add true (.bin .Add true (.bin .Mult true (.var 2) (.int 107)) (.bin .Mult true (.bin .Mod true (.fn .int true (.cons (.var 4) .nil)) (.int 2147483543)) (.int 20089))) (.int 13)) .nil)) (.int 2147483543))) (.cons (.ret (.lst false (.cons (.ifx (.or (.cmp .Lt (.var 4) (.int 0)) (.cmp .GtE (.var 4) (.bin .Pow true (.int 10) (.int 15)))) (.fn .abs true (.cons (.var 4) .nil)) (.int 0)) (.cons (.var 2) (.cons (.int 0) .nil))))) .nil))))) }
def e_law_well : Ent := ⟨("_law_well", none), f_law_well, "_law_well", "_law_well", top 198⟩
def f_law_draw : CFun := { ps := ["well", "few"], N := ["well", "few", "figure", "mixed"], body :=
  (.cons (.ite (.cmp .Gt (.ix (.var 0) (.int 0)) (.int 0)) (.cons (.asg (.tup (.cons (.sub (.var 0) (.int 0)) (.cons (.name 2) .nil))) (.fn .divmod true (.cons (.ix (.var 0) (.int 0)) (.cons (.var 1) .nil)))) (.cons (.ret (.var 2)) .nil)) .nil) (.cons (.asg (.sub (.var 0) (.int 2)) (.bin .Add true (.ix (.var 0) (.int 2)) (.int 1))) (.cons (.asg (.name 3) (.bin .Mod true (.fn .int true (.cons (.bin .Add true (.bin .Mult true (.ix (.var 0) (.int 1)) (.int 48271)) (.bin .Mult true (.int 18013) (.ix (.var 0) (.int 2)))) .nil)) (.int 2147483543))) (.cons (.asg (.sub (.var 0) (.int 1)) (.bin .Mod true (.fn .int true (.cons (.bin .Add true (.bin .Mult true (.var 3) (.bin .Add true (.bin .Mod true (.fn .int true (.cons (.var 3) .nil)) (.int 5009)) (.int 20029))) (.ix (.var 0) (.int 2))) .nil)) (.int 2147483543))) (.cons (.ret (.bin .Mod true (.fn .int true (.cons (.bin .FloorDiv true (.ix (.var 0) (.int 1)) (.int 967)) .nil)) (.var 1))) .nil))))) }
def e_law_draw : Ent := ⟨("_law_draw", none), f_law_draw, "_law_draw", "_law_draw", top 199⟩
def f_law_one : CFun := { ps := ["well", "some"], N := ["well", "some"], body :=
  (.cons (.ret (.ix (.var 1) (.call "_law_draw" (.cons (.var 0) (.cons (.fn .len true (.cons (.var 1) .nil)) .nil))))) .nil) }
def e_law_one : Ent := ⟨("_law_one", none), f_law_one, "_law_one", "_law_one", top 200⟩
def f_law_odd_thing : CFun := { ps := ["well"], N := ["well", "some", "more"], body :=
  (.cons (.asg (.name 1) (.tup (.cons .non (.cons (.bl true) (.cons (.bl false) (.cons (.str "z") (.cons (.str "") (.cons (.str "?") (.cons (.str "#") (.cons (.neg (.int 1)) (.cons (.int 0) (.cons (.int 1) (.cons (.int 7) (.cons (.bin .Pow true (.int 10) (.int 30)) (.cons (.tup .nil) (.cons (.lst true .nil) (.cons (.dct true .nil .nil) (.cons (.tup (.cons (.str "z") .nil)) (.cons (.lst true (.cons (.str "z") .nil)) (.cons (.tup (.cons (.str "?") (.cons (.str "x") .nil))) (.cons (.tup (.cons (.str "?") .nil)) .nil))))))))))))))))))))) (.cons (.asg (.name 2) (.tup (.cons (.tup (.cons (.str "#") (.cons (.str "type") (.cons (.int 1) .nil)))) (.cons (.tup (.cons (.str "#") (.cons (.str "count") (.cons (.int 1) .nil)))) (.cons (.tup (.cons (.tup (.cons (.str "z") .nil)) .nil)) (.cons (.tup (.cons (.tup (.cons (.str "?") (.cons (.str "x") .nil))) .nil)) (.cons (.tup (.cons (.str "s") (.cons (.tup (.cons (.str "z") .nil)) .nil))) (.cons (.tup (.cons (.str "a") (.cons (.str "closed") .nil))) (.cons (.tup (.cons (.str "?") (.cons (.str "x") (.cons (.str "y") .nil)))) .nil))))))))) (.cons (.ret (.call "_law_one" (.cons (.var 0) (.cons (.bin .Add true (.var 1) (.var 2)) .nil)))) .nil))) }
def e_law_odd_thing : Ent := ⟨("_law_odd_thing", none), f_law_odd_thing, "_law_odd_thing", "_law_odd_thing", top 201⟩
def e_law_heard : Ent := ⟨("_law_heard", none), { ps := ["act"], N := ["act", "e"], body := .nil }, "_law_heard", "_law_heard", top 202⟩
def f_law_right : CFun := { ps := ["well"], N := ["well", "console", "row", "turn", "thing", "lines", "wrong", "lap", "due", "told", "at", "many"], body :=
  (.cons (.asg (.name 1) (.call "fresh_console" .nil)) (.cons (.for_ (.name 2) (.seq (.slc true (.tup (.cons (.str "kind a closed") (.cons (.str "make c () a") .nil))) .no (.yes (.call "_law_draw" (.cons (.var 0) (.cons (.int 3) .nil)))))) (.cons (.asg (.name 1) (.ix (.call "said" (.cons (.var 1) (.cons (.var 2) .nil))) (.int 0))) .nil)) (.cons (.for_ (.name 3) (.range1 (.int 6)) (.cons (.asg (.name 4) (.call "_law_odd_thing" (.cons (.var 0) .nil))) (.cons (.ite (.not (.isi (.var 4) [(.bt "str")])) (.cons (.asg (.name 9) (.lst true (.cons (.heard "_law_right" "_law_heard" hd_law_heard (.call "said" (.cons (.var 1) (.cons (.var 4) .nil)))) (.cons (.heard "_law_right" "_law_heard" hd_law_heard (.callk "said" .nil ["line", "console"] (.cons (.var 4) (.cons (.var 1) .nil)))) .nil)))) (.cons (.ite (.cmp .NotEq (.var 9) (.bin .Mult true (.lst false (.cons (.lst true (.cons (.str "lines") (.cons (.str "None") .nil))) .nil)) (.int 2))) (.cons (.ret (.bl false)) .nil) .nil) .nil)) .nil) (.cons (.asg (.name 5) (.bin .Mult false (.lst false (.cons (.str "rows") .nil)) (.call "_law_one" (.cons (.var 0) (.cons (.tup (.cons (.int 0) (.cons (.int 1) (.cons (.int 5) (.cons (.int 58) (.cons (.int 59) (.cons (.int 60) (.cons (.int 61) (.cons (.int 62) .nil))))))))) .nil))))) (.cons (.asg (.name 6) (.lst false .nil)) (.cons (.for_ (.name 7) (.range1 (.ifx (.cmp .NotEq (.var 5) (.lst true .nil)) (.call "_law_draw" (.cons (.var 0) (.cons (.int 3) .nil))) (.int 0))) (.cons (.asg (.name 10) (.call "_law_draw" (.cons (.var 0) (.cons (.fn .len true (.cons (.var 5) .nil)) .nil)))) (.cons (.asg (.sub (.var 5) (.var 10)) (.call "_law_one" (.cons (.var 0) (.cons (.tup (.cons .non (.cons (.int 0) (.cons (.bl true) (.cons (.tup (.cons (.str "rows") .nil)) (.cons (.lst true (.cons (.str "rows") .nil)) (.cons (.dct true .nil .nil) (.cons (.bin .Pow true (.int 10) (.int 30)) (.cons (.tup .nil) .nil))))))))) .nil)))) (.cons (.expr (.bm .append (.var 6) (.cons (.var 10) .nil))) .nil)))) (.cons (.asg (.name 8) (.ifx (.cmp .Gt (.fn .len true (.cons (.var 5) .nil)) (.int 60)) (.lst true (.cons (.str "lines") (.cons (.str "None") .nil))) (.ifx (.cmp .NotEq (.var 6) (.lst true .nil)) (.lst true (.cons (.str "lines") (.cons (.fn .str true (.cons (.fn .min true (.cons (.var 6) .nil)) .nil)) .nil))) (.lst true (.cons (.str "told") .nil))))) (.cons (.asg (.name 9) (.lst true (.cons (.heard "_law_right" "_law_heard" hd_law_heard (.call "told_all" (.cons (.var 1) (.cons (.fn .tuple true (.cons (.var 5) .nil)) .nil)))) (.cons (.heard "_law_right" "_law_heard" hd_law_heard (.callk "told_all" .nil ["lines", "console"] (.cons (.fn .tuple true (.cons (.var 5) .nil)) (.cons (.var 1) .nil)))) .nil)))) (.cons (.ite (.cmp .Eq (.var 8) (.lst true (.cons (.str "told") .nil))) (.cons (.asg (.name 11) (.ifx (.cmp .NotEq (.ix (.var 1) (.int 0)) (.str "")) (.fn .str true (.cons (.fn .len true (.cons (.bm .split (.ix (.var 1) (.int 0)) (.cons (.str "\n") .nil)) .nil)) .nil)) (.str "0"))) (.cons (.ite (.cmp .NotEq (.reprd (.var 9)) (.reprd (.bin .Mult true (.lst false (.cons (.lst true (.cons (.str "told") (.cons (.tup (.cons (.var 1) (.cons (.bin .Mult true (.tup (.cons (.var 11) .nil)) (.fn .len true (.cons (.var 5) .nil))) .nil))) .nil))) .nil)) (.int 2)))) (.cons (.ret (.bl false)) .nil) .nil) .nil)) (.cons (.ite (.cmp .NotEq (.var 9) (.lst true (.cons (.var 8) (.cons (.var 8) .nil)))) (.cons (.ret (.bl false)) .nil) .nil) .nil)) (.cons (.ite (.cmp .NotEq (.heard "_law_right" "_law_heard" hd_law_heard (.call "told_all" (.cons (.var 1) (.cons (.var 5) .nil)))) (.lst true (.cons (.str "lines") (.cons (.str "None") .nil)))) (.cons (.ret (.bl false)) .nil) .nil) .nil)))))))))) (.cons (.asg (.name 9) (.lst true (.cons (.heard "_law_right" "_law_heard" hd_law_heard (.call "told_all" (.cons (.var 1) (.cons (.str "rows") .nil)))) (.cons (.heard "_law_right" "_law_heard" hd_law_heard (.call "told_all" (.cons (.var 1) (.cons .non .nil)))) .nil)))) (.cons (.ret (.tst (.cmp .Eq (.var 9) (.bin .Mult true (.lst false (.cons (.lst true (.cons (.str "lines") (.cons (.str "None") .nil))) .nil)) (.int 2))))) .nil))))), lf := "_law_right" }
def e_law_right : Ent := ⟨("_law_right", none), f_law_right, "_law_right", "_law_right", top 203⟩
def f_law : CFun := { ps := ["script"], N := ["script", "lap"], body :=
  (.cons (.ret (.fn .all true (.cons (.lc true (.call "_law_right" (.cons (.call "_law_well" (.cons (.var 0) (.cons (.var 1) .nil))) .nil)) (.name 1) (.range1 (.fn .max true (.cons (.int 2) (.cons (.fn .min true (.cons (.fn .len true (.cons (.var 0) .nil)) (.cons (.int 3) .nil))) .nil)))) .nil [("lap", 1)]) .nil))) .nil) }
def e_law : Ent := ⟨("law", none), f_law, "law", "law", top 204⟩
def tabL : List Ent := [e_is_name, e_is_run_sign, e_words_of, e_rows_in, e_Words____init, e_Words__word, e_Words__take, e_Words__choose, e_Words__fresh, e_Words__end, e_Reader____init, e_Reader__has_room, e_Reader__read, e_Reader__read_named, e_Reader__kinds_from, e_reader_of, e_with_row, e_said_by, e_fresh_console, e_said, e_told_all, e_law_well, e_law_draw, e_law_one, e_law_odd_thing, e_law_right, e_law]
def clsL : List Str := ["Words", "Reader"]
def fldL : List (Str × Str) := [("Reader", "kinds"), ("Reader", "makers"), ("Reader", "templates"), ("Reader", "units"), ("Words", "at"), ("Words", "row"), ("Words", "words")]
def gcL : List (Str × (Int ⊕ Str)) := [("FIGURES", .inr "0123456789"), ("LETTERS", .inr "abcdefghijklmnopqrstuvwxyz"), ("MOST_ARGS", .inl 3), ("MOST_CASES", .inl 10), ("MOST_DEFINITIONS", .inl 12), ("MOST_EARLIER", .inl 20), ("MOST_KINDS", .inl 8), ("MOST_LINES", .inl 60), ("MOST_MAKERS", .inl 24), ("MOST_NAME", .inl 12), ("MOST_PARAMS_tablework", .inl 4), ("MOST_ROOTS", .inl 10), ("MOST_UNITS", .inl 6), ("NOT_UNDERSTOOD", .inr "not understood")]
def kwL : List (Str × List Str) := [("said", ["line", "console"]), ("told_all", ["lines", "console"])]
def L (w : World) : Law := ⟨tabL, clsL, fldL, gcL, kwL, w, xtL, [e_law_heard]⟩
theorem b_is_name {w : World} : EntBd (L w) e_is_name where
  bd := fun _ _ _ _ _ _ us hl => match us, hl with | [_], _ => rfl
  kb := fun ks h => absurd h (by rw [show (L w).kwOf e_is_name.id.1 = [] from by kernel_rfl]; exact List.not_mem_nil)
theorem b_is_run_sign {w : World} : EntBd (L w) e_is_run_sign where
  bd := fun _ _ _ _ _ _ us hl => match us, hl with | [_], _ => rfl
  kb := fun ks h => absurd h (by rw [show (L w).kwOf e_is_run_sign.id.1 = [] from by kernel_rfl]; exact List.not_mem_nil)
theorem b_words_of {w : World} : EntBd (L w) e_words_of where
  bd := fun _ _ _ _ _ _ us hl => match us, hl with | [_], _ => rfl
  kb := fun ks h => absurd h (by rw [show (L w).kwOf e_words_of.id.1 = [] from by kernel_rfl]; exact List.not_mem_nil)
theorem b_rows_in {w : World} : EntBd (L w) e_rows_in where
  bd := fun _ _ _ _ _ _ us hl => match us, hl with | [_], _ => rfl
  kb := fun ks h => absurd h (by rw [show (L w).kwOf e_rows_in.id.1 = [] from by kernel_rfl]; exact List.not_mem_nil)
theorem b_Words____init {w : World} : EntBd (L w) e_Words____init where
  bd := fun _ _ _ _ _ _ us hl => match us, hl with | [_, _, _], _ => rfl
  kb := fun ks h => absurd h (by rw [show (L w).kwOf e_Words____init.id.1 = [] from by kernel_rfl]; exact List.not_mem_nil)
theorem b_Words__word {w : World} : EntBd (L w) e_Words__word where
  bd := fun _ _ _ _ _ _ us hl => match us, hl with | [_], _ => rfl
  kb := fun ks h => absurd h (by rw [show (L w).kwOf e_Words__word.id.1 = [] from by kernel_rfl]; exact List.not_mem_nil)
theorem b_Words__take {w : World} : EntBd (L w) e_Words__take where
  bd := fun _ _ _ _ _ _ us hl => match us, hl with | [_, _], _ => rfl
  kb := fun ks h => absurd h (by rw [show (L w).kwOf e_Words__take.id.1 = [] from by kernel_rfl]; exact List.not_mem_nil)
theorem b_Words__choose {w : World} : EntBd (L w) e_Words__choose where
  bd := fun _ _ _ _ _ _ us hl => match us, hl with | [_, _], _ => rfl
  kb := fun ks h => absurd h (by rw [show (L w).kwOf e_Words__choose.id.1 = [] from by kernel_rfl]; exact List.not_mem_nil)
theorem b_Words__fresh {w : World} : EntBd (L w) e_Words__fresh where
  bd := fun _ _ _ _ _ _ us hl => match us, hl with | [_, _], _ => rfl
  kb := fun ks h => absurd h (by rw [show (L w).kwOf e_Words__fresh.id.1 = [] from by kernel_rfl]; exact List.not_mem_nil)
theorem b_Words__end {w : World} : EntBd (L w) e_Words__end where
  bd := fun _ _ _ _ _ _ us hl => match us, hl with | [_], _ => rfl
  kb := fun ks h => absurd h (by rw [show (L w).kwOf e_Words__end.id.1 = [] from by kernel_rfl]; exact List.not_mem_nil)
theorem b_Reader____init {w : World} : EntBd (L w) e_Reader____init where
  bd := fun _ _ _ _ _ _ us hl => match us, hl with | [_], _ => rfl
  kb := fun ks h => absurd h (by rw [show (L w).kwOf e_Reader____init.id.1 = [] from by kernel_rfl]; exact List.not_mem_nil)
theorem b_Reader__has_room {w : World} : EntBd (L w) e_Reader__has_room where
  bd := fun _ _ _ _ _ _ us hl => match us, hl with | [_, _], _ => rfl
  kb := fun ks h => absurd h (by rw [show (L w).kwOf e_Reader__has_room.id.1 = [] from by kernel_rfl]; exact List.not_mem_nil)
theorem b_Reader__read {w : World} : EntBd (L w) e_Reader__read where
  bd := fun _ _ _ _ _ _ us hl => match us, hl with | [_, _], _ => rfl
  kb := fun ks h => absurd h (by rw [show (L w).kwOf e_Reader__read.id.1 = [] from by kernel_rfl]; exact List.not_mem_nil)
theorem b_Reader__read_named {w : World} : EntBd (L w) e_Reader__read_named where
  bd := fun _ _ _ _ _ _ us hl => match us, hl with | [_, _, _], _ => rfl
  kb := fun ks h => absurd h (by rw [show (L w).kwOf e_Reader__read_named.id.1 = [] from by kernel_rfl]; exact List.not_mem_nil)
theorem b_Reader__kinds_from {w : World} : EntBd (L w) e_Reader__kinds_from where
  bd := fun _ _ _ _ _ _ us hl => match us, hl with | [_, _, _, _], _ => rfl
  kb := fun ks h => absurd h (by rw [show (L w).kwOf e_Reader__kinds_from.id.1 = [] from by kernel_rfl]; exact List.not_mem_nil)
theorem b_reader_of {w : World} : EntBd (L w) e_reader_of where
  bd := fun _ _ _ _ _ _ us hl => match us, hl with | [_], _ => rfl
  kb := fun ks h => absurd h (by rw [show (L w).kwOf e_reader_of.id.1 = [] from by kernel_rfl]; exact List.not_mem_nil)
theorem b_with_row {w : World} : EntBd (L w) e_with_row where
  bd := fun _ _ _ _ _ _ us hl => match us, hl with | [_, _], _ => rfl
  kb := fun ks h => absurd h (by rw [show (L w).kwOf e_with_row.id.1 = [] from by kernel_rfl]; exact List.not_mem_nil)
theorem b_said_by {w : World} : EntBd (L w) e_said_by where
  bd := fun _ _ _ _ _ _ us hl => match us, hl with | [_, _], _ => rfl
  kb := fun ks h => absurd h (by rw [show (L w).kwOf e_said_by.id.1 = [] from by kernel_rfl]; exact List.not_mem_nil)
theorem b_fresh_console {w : World} : EntBd (L w) e_fresh_console where
  bd := fun _ _ _ _ _ _ us hl => match us, hl with | [], _ => rfl
  kb := fun ks h => absurd h (by rw [show (L w).kwOf e_fresh_console.id.1 = [] from by kernel_rfl]; exact List.not_mem_nil)
theorem b_said {w : World} : EntBd (L w) e_said where
  bd := fun _ _ _ _ _ _ us hl => match us, hl with | [_, _], _ => rfl
  kb := by
    rw [show (L w).kwOf e_said.id.1 = ([["line", "console"]] : List (List Str)) from by kernel_rfl]
    simp only [List.forall_mem_cons, List.not_mem_nil, false_imp_iff, implies_true, and_true]
    exact fun _ _ _ _ _ _ _ us ws h1 h2 => by
      obtain ⟨_, rfl⟩ := len0 us (by simp only [List.length_cons, List.length_nil] at h2; have h3 : us.length + ws.length = 2 := h1; omega)
      obtain ⟨c0, c1, rfl⟩ := len2 ws h2
      rfl
theorem b_told_all {w : World} : EntBd (L w) e_told_all where
  bd := fun _ _ _ _ _ _ us hl => match us, hl with | [_, _], _ => rfl
  kb := by
    rw [show (L w).kwOf e_told_all.id.1 = ([["lines", "console"]] : List (List Str)) from by kernel_rfl]
    simp only [List.forall_mem_cons, List.not_mem_nil, false_imp_iff, implies_true, and_true]
    exact fun _ _ _ _ _ _ _ us ws h1 h2 => by
      obtain ⟨_, rfl⟩ := len0 us (by simp only [List.length_cons, List.length_nil] at h2; have h3 : us.length + ws.length = 2 := h1; omega)
      obtain ⟨c0, c1, rfl⟩ := len2 ws h2
      rfl
theorem b_law_well {w : World} : EntBd (L w) e_law_well where
  bd := fun _ _ _ _ _ _ us hl => match us, hl with | [_, _], _ => rfl
  kb := fun ks h => absurd h (by rw [show (L w).kwOf e_law_well.id.1 = [] from by kernel_rfl]; exact List.not_mem_nil)
theorem b_law_draw {w : World} : EntBd (L w) e_law_draw where
  bd := fun _ _ _ _ _ _ us hl => match us, hl with | [_, _], _ => rfl
  kb := fun ks h => absurd h (by rw [show (L w).kwOf e_law_draw.id.1 = [] from by kernel_rfl]; exact List.not_mem_nil)
theorem b_law_one {w : World} : EntBd (L w) e_law_one where
  bd := fun _ _ _ _ _ _ us hl => match us, hl with | [_, _], _ => rfl
  kb := fun ks h => absurd h (by rw [show (L w).kwOf e_law_one.id.1 = [] from by kernel_rfl]; exact List.not_mem_nil)
theorem b_law_odd_thing {w : World} : EntBd (L w) e_law_odd_thing where
  bd := fun _ _ _ _ _ _ us hl => match us, hl with | [_], _ => rfl
  kb := fun ks h => absurd h (by rw [show (L w).kwOf e_law_odd_thing.id.1 = [] from by kernel_rfl]; exact List.not_mem_nil)
theorem b_law_right {w : World} : EntBd (L w) e_law_right where
  bd := fun _ _ _ _ _ _ us hl => match us, hl with | [_], _ => rfl
  kb := fun ks h => absurd h (by rw [show (L w).kwOf e_law_right.id.1 = [] from by kernel_rfl]; exact List.not_mem_nil)
theorem b_law {w : World} : EntBd (L w) e_law where
  bd := fun _ _ _ _ _ _ us hl => match us, hl with | [_], _ => rfl
  kb := fun ks h => absurd h (by rw [show (L w).kwOf e_law.id.1 = [] from by kernel_rfl]; exact List.not_mem_nil)
theorem b_law_heard {w : World} : EntBd (L w) e_law_heard where
  bd := fun _ _ _ _ _ _ us hl => match us, hl with | [_], _ => rfl
  kb := fun ks h => absurd h (by rw [show (L w).kwOf e_law_heard.id.1 = [] from by kernel_rfl]; exact List.not_mem_nil)
theorem bds {w : World} : ∀ e ∈ (L w).tab, EntBd (L w) e := by
  show ∀ e ∈ tabL, EntBd (L w) e
  unfold tabL
  simp only [List.forall_mem_cons, List.not_mem_nil, false_imp_iff, implies_true, and_true]
  exact ⟨b_is_name, b_is_run_sign, b_words_of, b_rows_in, b_Words____init, b_Words__word, b_Words__take, b_Words__choose, b_Words__fresh, b_Words__end, b_Reader____init, b_Reader__has_room, b_Reader__read, b_Reader__read_named, b_Reader__kinds_from, b_reader_of, b_with_row, b_said_by, b_fresh_console, b_said, b_told_all, b_law_well, b_law_draw, b_law_one, b_law_odd_thing, b_law_right, b_law⟩
theorem chk {w : World} : ((L w).tab.all (L w).entB && (L w).fldB) = true := by kernel_rfl
theorem fas_eq (w : World) : (L w).fa = fas := by kernel_rfl
theorem fns_eq (w : World) : (L w).fn = fns := by kernel_rfl
end RX.Lawk55
set_option Elab.async false
set_option linter.all false
set_option pp.deepTerms false
set_option pp.deepTerms.threshold 8
set_option maxRecDepth 1000000
set_option maxHeartbeats 4000000
/-! K55b: draws, odd things. -/
namespace RX.Lawk55
open PySem PySem.Spec PyProof.Rows L2 RX
local macro_rules | `(tactic| walk_at "w") => `(tactic| ((conv => whnf); repeat ((first | refine bT rfl ?_ | refine bF rfl ?_ | refine ⟨_, rfl, ?_⟩ | refine ⟨_, _, rfl, rfl, ?_⟩ | refine ⟨_, _, rfl, ?_⟩ | refine ⟨rfl, ?_⟩ | refine szA rfl ?_ | refine ⟨by decide, ?_⟩); (conv => whnf))))
variable {w : World}
abbrev wl (a b c : Int) : DO := .lst [.int a, .int b, .int c]
theorem lsOf_ref {M : MM} {a : Addr} {xs : List D} (h : M a = some (.lst xs)) : lsOf M (.ref a) = some xs := by unfold lsOf; simp only [h]
theorem T_well : (L w).T ("_law_well", none) = some f_law_well := by kernel_rfl
theorem T_draw : (L w).T ("_law_draw", none) = some f_law_draw := by kernel_rfl
theorem T_one : (L w).T ("_law_one", none) = some f_law_one := by kernel_rfl
theorem T_odd : (L w).T ("_law_odd_thing", none) = some f_law_odd_thing := by kernel_rfl
theorem ct_draw {n : Nat} {wa : Addr} {a b c few : Int} {M : MM} {Q : DV} {E : XD} (h : M wa = some (wl a b c)) (h1 : 0 < few) (h2 : few < 1073741824) (q : ∀ d a' b' c', 0 ≤ d → d < few → Q (.int d) (up M wa (wl a' b' c'))) : (L w).cl (n + 1) ("_law_draw", none) [.ref wa, .int few] M Q E := by
  rw [Law.stp T_draw]
  walk_at "w"
  refine .inl ⟨_, _, _, lsOf_ref h, rfl, rfl, ?_⟩
  walk_at "w"
  by_cases hp : 0 < a
  · refine bT (decide_eq_true hp) ?_
    walk_at "w"
    refine .inl ⟨_, _, _, lsOf_ref h, rfl, rfl, ?_⟩
    walk_at "w"
    refine ⟨⟨h1, h2⟩, ?_⟩
    walk_at "w"
    refine ⟨_, _, h, rfl, ?_⟩
    walk_at "w"
    exact rt_ (q _ _ _ _ (Int.emod_nonneg _ (by omega)) (Int.emod_lt_of_pos _ h1))
  · refine bF (decide_eq_false hp) ?_
    walk_at "w"
    refine .inl ⟨_, _, _, lsOf_ref h, rfl, rfl, ?_⟩
    walk_at "w"
    refine ⟨_, _, h, rfl, ?_⟩
    walk_at "w"
    refine .inl ⟨_, _, _, lsOf_ref up_same, rfl, rfl, ?_⟩
    walk_at "w"
    refine ⟨.inr (by decide), ?_⟩
    walk_at "w"
    refine .inl ⟨_, _, _, lsOf_ref up_same, rfl, rfl, ?_⟩
    walk_at "w"
    refine ⟨.inl (by decide), ?_⟩
    walk_at "w"
    generalize hm : (b * 48271 + 18013 * (c + 1)) % 2147483543 = mx
    refine ⟨.inr (by omega), ?_⟩
    walk_at "w"
    refine .inl ⟨_, _, _, lsOf_ref up_same, rfl, rfl, ?_⟩
    walk_at "w"
    refine ⟨_, _, up_same, rfl, ?_⟩
    walk_at "w"
    refine .inl ⟨_, _, _, lsOf_ref up_same, rfl, rfl, ?_⟩
    walk_at "w"
    refine ⟨⟨by decide, by decide⟩, ?_⟩
    walk_at "w"
    refine ⟨h1, ?_⟩
    rw [up_up]
    exact rt_ (q _ _ _ _ (Int.emod_nonneg _ (by omega)) (Int.emod_lt_of_pos _ h1))
theorem ct_one {n : Nat} {wa : Addr} {a b c : Int} {ds : List D} {M : MM} {Q : DV} {E : XD} (h : M wa = some (wl a b c)) (h1 : ds ≠ []) (h2 : ds.length < 1073741824) (q : ∀ d ∈ ds, ∀ a' b' c', Q d (up M wa (wl a' b' c'))) : (L w).cl (n + 2) ("_law_one", none) [.ref wa, .tup ds] M Q E := by
  rw [Law.stp T_one]
  walk_at "w"
  have hl : 0 < ds.length := List.length_pos_iff.mpr h1
  refine ct_draw h (by omega) (by omega) fun d a' b' c' d0 d1 => ?_
  walk_at "w"
  have hk : d.toNat < ds.length := by omega
  refine ⟨ds[d.toNat], ?_, rt_ (q _ (List.getElem_mem hk) _ _ _)⟩
  have := atI_nat (xs := ds) (k := d.toNat) (List.getElem?_eq_getElem hk)
  rw [show ((d.toNat : Nat) : Int) = d from Int.toNat_of_nonneg d0] at this
  exact this
theorem ct_well {n : Nat} {ns : List Int} {lap : Nat} {M : MM} {Q : DV} {E : XD} (hl : ns.length ≤ 63) (q : ∀ w a b c, M w = none → Q (.ref w) (up M w (wl a b c))) : (L w).cl (n + 1) ("_law_well", none) [.lst (ns.map D.int), .int lap] M Q E := by
  rw [Law.stp T_well]
  walk_at "w"
  refine ⟨.inl (by decide), ?_⟩
  walk_at "w"
  have hc : ∀ x ∈ cutD (ns.map D.int) none (some 12), ∃ z, x = .int z := fun x hx => by
    have := List.mem_of_mem_drop (List.mem_of_mem_take hx)
    obtain ⟨z, _, e⟩ := List.mem_map.mp this
    exact ⟨z, e.symm⟩
  refine fo_all (fun i σ M' => M' = M ∧ ∃ (mx : Int) (o3 : Option D), σ = [some (.lst (ns.map D.int)), some (.int lap), some (.int mx), o3, none]) ?_ ?_ ?_ ⟨rfl, _, _, rfl⟩
  · intro i σ M' _
    exact trivial
  · intro i x hx K σ M' ⟨eM, mx, o3, eσ⟩ hK
    subst eM eσ
    obtain ⟨z, rfl⟩ := hc x (List.mem_of_getElem? hx)
    walk_at "w"
    refine ⟨.inr (by decide), ?_⟩
    walk_at "w"
    refine ⟨.inr (by decide), ?_⟩
    walk_at "w"
    exact hK _ _ ⟨rfl, _, _, rfl⟩
  intro σ M' ⟨eM, mx, o3, eσ⟩
  subst eM eσ
  walk_at "w"
  refine Bif_of (fun hk => ?_) (fun hk => ?_)
  · have hlt : lap < ns.length := by
      have := of_decide_eq_true hk
      rw [List.length_map] at this
      omega
    walk_at "w"
    refine ⟨.int ns[lap], atI_nat (by rw [List.getElem?_map, List.getElem?_eq_getElem hlt]; rfl), ?_⟩
    generalize ns[lap] = own
    walk_at "w"
    refine ⟨.inr (by decide), ?_⟩
    walk_at "w"
    refine ⟨.inr (by decide), ?_⟩
    walk_at "w"
    refine Bif_of (fun _ => ?_) (fun _ => ?_)
    · walk_at "w"
      intro wa hw
      exact rt_ (q wa _ _ _ hw)
    · walk_at "w"
      refine ⟨⟨by decide, by decide, by decide⟩, ?_⟩
      walk_at "w"
      refine Bif_of (fun _ => ?_) (fun _ => ?_)
      · walk_at "w"
        intro wa hw
        exact rt_ (q wa _ _ _ hw)
      · walk_at "w"
        intro wa hw
        exact rt_ (q wa _ _ _ hw)
  · generalize (0 : Int) = own
    walk_at "w"
    refine ⟨.inr (by decide), ?_⟩
    walk_at "w"
    refine ⟨.inr (by decide), ?_⟩
    walk_at "w"
    refine Bif_of (fun _ => ?_) (fun _ => ?_)
    · walk_at "w"
      intro wa hw
      exact rt_ (q wa _ _ _ hw)
    · walk_at "w"
      refine ⟨⟨by decide, by decide, by decide⟩, ?_⟩
      walk_at "w"
      refine Bif_of (fun _ => ?_) (fun _ => ?_)
      · walk_at "w"
        intro wa hw
        exact rt_ (q wa _ _ _ hw)
      · walk_at "w"
        intro wa hw
        exact rt_ (q wa _ _ _ hw)
/-! ### things -/
mutual
def pD : PyData → D
  | .none => .non
  | .bool b => .bl b
  | .int i => .int i
  | .str x => .str x
  | .tuple ps => .tup (pDs ps)
  | .list ps => .lst (pDs ps)
  | _ => .dct [] []
def pDs : List PyData → List D
  | [] => []
  | p :: ps => pD p :: pDs ps
end
def odds : List PyData := [.none, .bool true, .bool false, .str "z", .str "", .str "?", .str "#", .int (-1), .int 0, .int 1, .int 7, .int (10 ^ 30), .tuple [], .list [], .dict [], .tuple [.str "z"], .list [.str "z"], .tuple [.str "?", .str "x"], .tuple [.str "?"],
  .tuple [.str "#", .str "type", .int 1], .tuple [.str "#", .str "count", .int 1], .tuple [.tuple [.str "z"]], .tuple [.tuple [.str "?", .str "x"]], .tuple [.str "s", .tuple [.str "z"]], .tuple [.str "a", .str "closed"]] ++ [.tuple [.str "?", .str "x", .str "y"]]
theorem ct_odd {n : Nat} {wa : Addr} {a b c : Int} {M : MM} {Q : DV} {E : XD} (h : M wa = some (wl a b c)) (q : ∀ p ∈ odds, ∀ a' b' c', Q (pD p) (up M wa (wl a' b' c'))) : (L w).cl (n + 3) ("_law_odd_thing", none) [.ref wa] M Q E := by
  rw [Law.stp T_odd]
  walk_at "w"
  refine ⟨⟨by decide, by decide⟩, ?_⟩
  walk_at "w"
  refine ct_one (ds := odds.map pD) h (by decide) (by decide) fun d hd a' b' c' => ?_
  obtain ⟨p, hp, rfl⟩ := List.mem_map.mp hd
  exact rt_ (q p hp _ _ _)
end RX.Lawk55
set_option Elab.async false
set_option linter.all false
set_option pp.deepTerms false
set_option pp.deepTerms.threshold 8
set_option maxRecDepth 1000000
set_option maxHeartbeats 4000000
/-! K55c: words of a line, the readers of words. -/
namespace RX.Lawk55
open PySem PySem.Spec PyProof.Rows L2 RX
local macro_rules | `(tactic| walk_at "w") => `(tactic| ((conv => whnf); repeat ((first | refine bT rfl ?_ | refine bF rfl ?_ | refine ⟨_, rfl, ?_⟩ | refine ⟨_, _, rfl, rfl, ?_⟩ | refine ⟨_, _, rfl, ?_⟩ | refine ⟨rfl, ?_⟩ | refine szA rfl ?_ | refine ⟨by decide, ?_⟩); (conv => whnf))))
variable {w : World}
theorem gx_of {x : Str} {d : D} (h : (L w).gl x = some d) : (L w).gx x = some d := by unfold Law.gx; exact h
theorem hx_of {C m : Str} (h : ((L w).T (C, some m)).isSome = true) : (L w).hx C m = true := by unfold Law.hx; exact h
theorem fx_of {C f : Str} (h : (L w).fl C f = true) : (L w).fx C f = true := by unfold Law.fx; exact h
theorem px_of {x : Str} {ps : List Str} (h : (match (L w).T (x, none) with | some c => c.ps | none => (match (L w).T (x, some "__init__") with | some c => c.ps | none => [])) = ps) : (L w).px x = ps := by unfold Law.px; exact h
theorem sub_up {M : MM} {p : Addr} {o : DO} (h : M p = none) : Sub M (up M p o) := fun a u e => by
  rw [up_ne (fun z => by rw [z, h] at e; cases e)]
  exact e
def letS : Str := "abcdefghijklmnopqrstuvwxyz"
def figS : Str := "0123456789"
theorem g_letters : (L w).gx "LETTERS" = some (.str letS) := gx_of (by kernel_rfl)
theorem g_figures : (L w).gx "FIGURES" = some (.str figS) := gx_of (by kernel_rfl)
theorem T_run_sign : (L w).T ("is_run_sign", none) = some f_is_run_sign := by kernel_rfl
theorem T_words_of : (L w).T ("words_of", none) = some f_words_of := by kernel_rfl
def isRun (z : Str) : Bool := inS z letS || (inS z figS || decide (z = "_"))
theorem ct_run {n : Nat} {z : Str} {M : MM} {Q : DV} {E : XD} (q : Q (.bl (isRun z)) M) : (L w).cl (n + 1) ("is_run_sign", none) [.str z] M Q E := by
  rw [Law.stp T_run_sign]
  walk_at "w"
  refine ⟨_, g_letters, ?_⟩
  walk_at "w"
  unfold isRun at q
  refine Bif_of (fun h => ?_) (fun h => ?_)
  · rw [h] at q
    exact rt_ q
  · rw [h] at q
    walk_at "w"
    refine ⟨_, g_figures, ?_⟩
    walk_at "w"
    refine Bif_of (fun h2 => ?_) (fun h2 => ?_)
    · rw [h2] at q
      exact rt_ q
    · rw [h2] at q
      walk_at "w"
      exact rt_ q
def kept (e : Str) : Option Str := if e ∈ (["", " "] : List Str) then none else some e
def stepW (s : List Str × Str) (c : Str) : List Str × Str := if isRun c then (s.1, s.2 ++ c) else (s.1 ++ [s.2, c].filterMap kept, "")
def signs (z : Str) : List Str := z.cps.toList.map fun c => (⟨#[c]⟩ : Str)
def upto (z : Str) (i : Nat) : List Str × Str := ((signs z).take i).foldl stepW ([], "")
theorem upto_succ {z : Str} {i : Nat} {c : Str} (h : (signs z)[i]? = some c) : upto z (i + 1) = stepW (upto z i) c := by
  unfold upto
  have hi := (List.getElem?_eq_some_iff.mp h).1
  rw [List.take_succ, h, List.foldl_append]
  rfl
def smallW (z : Str) : Bool := (List.range ((signs z).length + 1)).all fun i => decide ((upto z i).2.length ≤ 1000) && decide ((upto z i).1.length ≤ 1000)
/-- the words of a line whose last sign is one of a run -/
def wordsF (z : Str) : List Str := (upto z (signs z).length).1 ++ [(upto z (signs z).length).2]
theorem lc_kept {G : Gam} {E : ED} {a c : Str} {o0 o1 : Option D} {M : MM} {Q : DV} (q : Q (.lst (([a, c].filterMap kept).map .str)) M) : wpE G E (.lc true (.var 4) (.name 4) (.seq (.tup (.cons (.var 2) (.cons (.var 3) .nil)))) (.cons (.cmp .NotIn (.var 4) (.tup (.cons (.str "") (.cons (.str " ") .nil)))) .nil) [("each", 4)]) [o0, o1, some (.str a), some (.str c), none] M Q := by
  walk_at "w"
  refine ⟨trivial, of_decide_eq_true rfl, ?_⟩
  walk_at "w"
  refine ⟨_, inR_str a ["", " "], ?_⟩
  by_cases h1 : a ∈ (["", " "] : List Str)
  · have e1 : kept a = none := if_pos h1
    refine bF (by rw [decide_eq_true h1]; rfl) (bF rfl ?_)
    refine ⟨trivial, of_decide_eq_true rfl, ?_⟩
    walk_at "w"
    refine ⟨_, inR_str c ["", " "], ?_⟩
    by_cases h2 : c ∈ (["", " "] : List Str)
    · have e2 : kept c = none := if_pos h2
      refine bF (by rw [decide_eq_true h2]; rfl) (bF rfl ?_)
      refine ⟨trivial, ?_⟩
      (simp only [List.filterMap_cons, List.filterMap_nil, e1, e2] at q; exact q)
    · have e2 : kept c = some c := if_neg h2
      refine bT (by rw [decide_eq_false h2]; rfl) ?_
      walk_at "w"
      refine ⟨trivial, ?_⟩
      (simp only [List.filterMap_cons, List.filterMap_nil, e1, e2] at q; exact q)
  · have e1 : kept a = some a := if_neg h1
    refine bT (by rw [decide_eq_false h1]; rfl) ?_
    walk_at "w"
    refine ⟨trivial, of_decide_eq_true rfl, ?_⟩
    walk_at "w"
    refine ⟨_, inR_str c ["", " "], ?_⟩
    by_cases h2 : c ∈ (["", " "] : List Str)
    · have e2 : kept c = none := if_pos h2
      refine bF (by rw [decide_eq_true h2]; rfl) (bF rfl ?_)
      refine ⟨trivial, ?_⟩
      (simp only [List.filterMap_cons, List.filterMap_nil, e1, e2] at q; exact q)
    · have e2 : kept c = some c := if_neg h2
      refine bT (by rw [decide_eq_false h2]; rfl) ?_
      walk_at "w"
      refine ⟨trivial, ?_⟩
      (simp only [List.filterMap_cons, List.filterMap_nil, e1, e2] at q; exact q)
theorem ct_words {n : Nat} {z : Str} {M : MM} {Q : DV} {E : XD} (hs : smallW z = true) (hr : (upto z (signs z).length).2 ≠ "") (q : Q (.lst ((wordsF z).map .str)) M) : (L w).cl (n + 2) ("words_of", none) [.str z] M Q E := by
  have small : ∀ i ≤ (signs z).length, (upto z i).2.length ≤ 1000 ∧ (upto z i).1.length ≤ 1000 := fun i hi => by
    have := List.all_eq_true.mp hs i (List.mem_range.mpr (by omega))
    rw [Bool.and_eq_true, decide_eq_true_eq, decide_eq_true_eq] at this
    exact this
  rw [Law.stp T_words_of]
  walk_at "w"
  intro p hp
  walk_at "w"
  have el : strD z = (signs z).map .str := by unfold strD signs; rw [List.map_map]; rfl
  rw [el]
  refine fo_all (fun i σ M' => M' = up M p (.lst ((upto z i).1.map .str)) ∧ ∃ o3, σ = [some (.str z), some (.ref p), some (.str (upto z i).2), o3, none]) (fun _ _ _ _ => trivial) ?_ ?_ ⟨rfl, _, rfl⟩
  · intro i x hx K σ M' ⟨eM, o3, eσ⟩ hK
    subst eM eσ
    rw [List.getElem?_map] at hx
    obtain ⟨c, hc, rfl⟩ := Option.map_eq_some_iff.mp hx
    have hi := (List.getElem?_eq_some_iff.mp hc).1
    have hu := upto_succ hc
    obtain ⟨s1, s2⟩ := small i (by omega)
    obtain ⟨t1, t2⟩ := small (i + 1) (by omega)
    rw [hu] at t1 t2
    walk_at "w"
    refine ct_run ?_
    walk_at "w"
    refine Bif_of (fun h => ?_) (fun h => ?_)
    · have e1 : stepW (upto z i) c = ((upto z i).1, (upto z i).2 ++ c) := by unfold stepW; rw [if_pos h]
      walk_at "w"
      refine ⟨?_, ?_⟩
      · have hc1 : c.length = 1 := by
          unfold signs at hc
          rw [List.getElem?_map] at hc
          obtain ⟨k, _, rfl⟩ := Option.map_eq_some_iff.mp hc
          rfl
        rw [hc1, sizeLine_eq]
        omega
      walk_at "w"
      refine hK _ _ ⟨?_, some (.str c), ?_⟩
      · rw [hu, e1]
      · rw [hu, e1] <;> rfl
    · have e1 : stepW (upto z i) c = ((upto z i).1 ++ [(upto z i).2, c].filterMap kept, ("" : Str)) := by unfold stepW; rw [if_neg (by rw [h]; exact Bool.false_ne_true)]
      rw [e1] at t1 t2
      walk_at "w"
      refine ⟨⟨_, lsOf_ref up_same⟩, ?_⟩
      refine lc_kept ?_
      walk_at "w"
      refine ⟨p, _, _, rfl, up_same, rfl, ?_, ?_⟩
      · show ((upto z i).1.map D.str).length + (([(upto z i).2, c].filterMap kept).map D.str).length ≤ sizeLine
        rw [List.length_map, List.length_map, sizeLine_eq]
        have h2 : ([(upto z i).2, c].filterMap kept).length ≤ 2 := List.length_filterMap_le _ _
        omega
      walk_at "w"
      refine hK _ _ ⟨?_, some (.str c), ?_⟩
      · rw [up_up, hu, e1, List.map_append]
      · rw [hu, e1] <;> rfl
  intro σ M' ⟨eM, o3, eσ⟩
  subst eM eσ
  rw [List.length_map]
  generalize hN : (signs z).length = N at *
  walk_at "w"
  refine bT (by rw [decide_eq_false hr]; rfl) ?_
  walk_at "w"
  refine ⟨_, show sqOf _ (.ref p) = _ from lsOf_ref up_same, ?_⟩
  walk_at "w"
  refine ⟨?_, ?_⟩
  · have := (small N (Nat.le_refl _)).2
    simp only [List.length_append, List.length_map, List.length_cons, List.length_nil]
    rw [sizeLine_eq]
    omega
  · unfold wordsF at q
    rw [hN, List.map_append] at q
    exact ⟨M, sub_up hp, q⟩
end RX.Lawk55
set_option Elab.async false
set_option linter.all false
set_option pp.deepTerms false
set_option pp.deepTerms.threshold 8
set_option maxRecDepth 1000000
set_option maxHeartbeats 4000000
/-! K55d: the reader of words. -/
namespace RX.Lawk55
open PySem PySem.Spec PyProof.Rows L2 RX
local macro_rules | `(tactic| walk_at "w") => `(tactic| ((conv => whnf); repeat ((first | refine bT rfl ?_ | refine bF rfl ?_ | refine ⟨_, rfl, ?_⟩ | refine ⟨_, _, rfl, rfl, ?_⟩ | refine ⟨_, _, rfl, ?_⟩ | refine ⟨rfl, ?_⟩ | refine szA rfl ?_ | refine ⟨by decide, ?_⟩); (conv => whnf))))
variable {w : World}
abbrev wrd (r : Int) (ws : List Str) (k : Nat) : DO := .ins "Words" ["row", "words", "at"] [.int r, .lst (ws.map .str), .int (k : Int)]
theorem T_word : (L w).T ("Words", some "word") = some f_Words__word := by kernel_rfl
theorem T_take : (L w).T ("Words", some "take") = some f_Words__take := by kernel_rfl
theorem T_choose : (L w).T ("Words", some "choose") = some f_Words__choose := by kernel_rfl
theorem T_fresh : (L w).T ("Words", some "fresh") = some f_Words__fresh := by kernel_rfl
theorem T_end : (L w).T ("Words", some "end") = some f_Words__end := by kernel_rfl
theorem T_winit : (L w).T ("Words", some "__init__") = some f_Words____init := by kernel_rfl
theorem fw_row : (L w).fx "Words" "row" = true := fx_of (by kernel_rfl)
theorem fw_words : (L w).fx "Words" "words" = true := fx_of (by kernel_rfl)
theorem fw_at : (L w).fx "Words" "at" = true := fx_of (by kernel_rfl)
theorem hw_word : (L w).hx "Words" "word" = true := hx_of (by kernel_rfl)
theorem hw_take : (L w).hx "Words" "take" = true := hx_of (by kernel_rfl)
theorem hw_choose : (L w).hx "Words" "choose" = true := hx_of (by kernel_rfl)
theorem hw_fresh : (L w).hx "Words" "fresh" = true := hx_of (by kernel_rfl)
theorem hw_end : (L w).hx "Words" "end" = true := hx_of (by kernel_rfl)
section
variable {n : Nat} {p : Addr} {r : Int} {ws : List Str} {k : Nat} {M : MM} {Q : DV} {E : XD}
theorem ct_word (h : M p = some (wrd r ws k)) (q : Q (.str (ws.getD k "")) M) : (L w).cl (n + 1) ("Words", some "word") [.ref p] M Q E := by
  rw [Law.stp T_word]
  walk_at "w"
  refine ⟨_, _, _, _, _, rfl, h, fw_at, rfl, ?_⟩
  walk_at "w"
  refine ⟨_, _, _, _, _, rfl, h, fw_words, rfl, ?_⟩
  walk_at "w"
  rw [List.length_map]
  refine Bif_of (fun hk => ?_) (fun hk => ?_)
  · have hk := of_decide_eq_true hk
    have hk' : k < ws.length := by omega
    walk_at "w"
    refine ⟨_, _, _, _, _, rfl, h, fw_words, rfl, ?_⟩
    walk_at "w"
    refine ⟨_, _, _, _, _, rfl, h, fw_at, rfl, ?_⟩
    walk_at "w"
    refine ⟨.str ws[k], atI_nat (by rw [List.getElem?_map, List.getElem?_eq_getElem hk']; rfl), ?_⟩
    rw [List.getD_eq_getElem?_getD, List.getElem?_eq_getElem hk'] at q
    exact rt_ q
  · have hk := of_decide_eq_false hk
    have hk' : ws.length ≤ k := by omega
    walk_at "w"
    rw [List.getD_eq_getElem?_getD, List.getElem?_eq_none hk'] at q
    exact rt_ q
theorem ct_take {x : Str} (h : M p = some (wrd r ws k)) (hx : ws.getD k "" = x) (q : Q .non (up M p (wrd r ws (k + 1)))) : (L w).cl (n + 2) ("Words", some "take") [.ref p, .str x] M Q E := by
  rw [Law.stp T_take]
  walk_at "w"
  refine ⟨_, _, _, _, rfl, h, by decide, hw_word, ?_⟩
  walk_at "w"
  refine ct_word h ?_
  walk_at "w"
  refine bF (by rw [hx, decide_eq_true rfl]; rfl) ?_
  walk_at "w"
  refine ⟨_, _, _, _, _, rfl, h, fw_at, rfl, ?_⟩
  walk_at "w"
  exact ⟨_, _, _, _, rfl, h, fw_at, by decide, rt_ q⟩
theorem dcOf_ref {M : MM} {a : Addr} {ks : List Key} {ds : List D} (h : M a = some (.dct ks ds)) : dcOf M (.ref a) = some (ks, ds) := by unfold dcOf; simp only [h]
theorem ct_choose {x : Str} {d : D} (h : M p = some (wrd r ws k)) (hx : ws.getD k "" = x) (hin : (∃ zs : List Str, d = .tup (zs.map .str) ∧ decide (x ∈ zs) = true) ∨ (∃ a ks ds, d = .ref a ∧ M a = some (.dct ks ds) ∧ hasK ks (.inr x) = true)) (q : Q (.str x) (up M p (wrd r ws (k + 1)))) : (L w).cl (n + 2) ("Words", some "choose") [.ref p, d] M Q E := by
  rw [Law.stp T_choose]
  walk_at "w"
  refine ⟨_, _, _, _, rfl, h, by decide, hw_word, ?_⟩
  walk_at "w"
  refine ct_word h ?_
  rw [hx]
  rcases hin with ⟨zs, rfl, hz⟩ | ⟨a, ks, ds, rfl, ha, hz⟩
  · walk_at "w"
    refine ⟨_, inR_str x zs, ?_⟩
    rw [hz]
    walk_at "w"
    refine ⟨_, _, _, _, _, rfl, h, fw_at, rfl, ?_⟩
    walk_at "w"
    exact ⟨_, _, _, _, rfl, h, fw_at, by decide, _, rfl, rt_ q⟩
  · walk_at "w"
    refine .inr ⟨_, _, _, dcOf_ref ha, rfl, ?_⟩
    rw [hz]
    walk_at "w"
    refine ⟨_, _, _, _, _, rfl, h, fw_at, rfl, ?_⟩
    walk_at "w"
    exact ⟨_, _, _, _, rfl, h, fw_at, by decide, _, rfl, rt_ q⟩
theorem T_is_name : (L w).T ("is_name", none) = some f_is_name := by kernel_rfl
theorem g_most_name : (L w).gx "MOST_NAME" = some (.int 12) := gx_of (by kernel_rfl)
theorem ct_name_a {M : MM} {Q : DV} {E : XD} {x : Str} (hx : x = "a" ∨ x = "c") (q : Q (.bl true) M) : (L w).cl (n + 1) ("is_name", none) [.str x] M Q E := by
  rw [Law.stp T_is_name]
  rcases hx with rfl | rfl
  all_goals
    walk_at "w"
    refine ⟨_, g_most_name, ?_⟩
    walk_at "w"
    refine ⟨_, by rw [sizeLine_eq]; decide, rfl, ?_⟩
    walk_at "w"
    refine ⟨_, g_letters, ?_⟩
    walk_at "w"
    refine bF (by decide +kernel) ?_
    walk_at "w"
    refine ⟨trivial, of_decide_eq_true rfl, ?_⟩
    walk_at "w"
    refine ⟨_, g_letters, ?_⟩
    walk_at "w"
    refine bT (by decide +kernel) ?_
    walk_at "w"
    refine ⟨trivial, ?_⟩
    walk_at "w"
    exact ⟨[true], rfl, rt_ q⟩
theorem ct_fresh {x : Str} {d : D} (h : M p = some (wrd r ws k)) (hx : ws.getD k "" = x) (hn : x = "a" ∨ x = "c") (hin : d = .lst [] ∨ (∃ a ks ds, d = .ref a ∧ M a = some (.dct ks ds) ∧ hasK ks (.inr x) = false)) (q : Q (.str x) (up M p (wrd r ws (k + 1)))) : (L w).cl (n + 2) ("Words", some "fresh") [.ref p, d] M Q E := by
  rw [Law.stp T_fresh]
  walk_at "w"
  refine ⟨_, _, _, _, rfl, h, by decide, hw_word, ?_⟩
  walk_at "w"
  refine ct_word h ?_
  rw [hx]
  rcases hin with rfl | ⟨a, ks, ds, rfl, ha, hz⟩
  · walk_at "w"
    refine ct_name_a hn ?_
    walk_at "w"
    refine ⟨_, inR_str x [], ?_⟩
    walk_at "w"
    refine ⟨_, _, _, _, _, rfl, h, fw_at, rfl, ?_⟩
    walk_at "w"
    exact ⟨_, _, _, _, rfl, h, fw_at, by decide, _, rfl, rt_ q⟩
  · walk_at "w"
    refine ct_name_a hn ?_
    walk_at "w"
    refine .inr ⟨_, _, _, dcOf_ref ha, rfl, ?_⟩
    rw [hz]
    walk_at "w"
    refine ⟨_, _, _, _, _, rfl, h, fw_at, rfl, ?_⟩
    walk_at "w"
    exact ⟨_, _, _, _, rfl, h, fw_at, by decide, _, rfl, rt_ q⟩
theorem ct_end (h : M p = some (wrd r ws k)) (hk : ws.length ≤ k) (q : Q .non M) : (L w).cl (n + 1) ("Words", some "end") [.ref p] M Q E := by
  rw [Law.stp T_end]
  walk_at "w"
  refine ⟨_, _, _, _, _, rfl, h, fw_at, rfl, ?_⟩
  walk_at "w"
  refine ⟨_, _, _, _, _, rfl, h, fw_words, rfl, ?_⟩
  walk_at "w"
  rw [List.length_map]
  refine bF (decide_eq_false (by omega)) ?_
  walk_at "w"
  exact rt_ q
theorem ct_winit {d : D} {Q : DV} (q : Q .non (up M p (.ins "Words" ["row", "words", "at"] [.int r, d, .int 0]))) : (L w).ini (n + 2) ("Words", some "__init__") [.ref p, .int r, d] (up M p (.ins "Words" [] [])) Q E := by
  rw [Law.ini_s, Law.stp T_winit]
  walk_at "w"
  refine ⟨_, _, _, _, rfl, up_same, fw_row, by decide, ?_⟩
  rw [up_up]
  walk_at "w"
  refine ⟨_, _, _, _, rfl, up_same, fw_words, of_decide_eq_true rfl, ?_⟩
  rw [up_up]
  walk_at "w"
  refine ⟨_, _, _, _, rfl, up_same, fw_at, of_decide_eq_true rfl, ?_⟩
  rw [up_up]
  exact rt_ q
end
end RX.Lawk55
set_option Elab.async false
set_option linter.all false
set_option pp.deepTerms false
set_option pp.deepTerms.threshold 8
set_option maxRecDepth 1000000
set_option maxHeartbeats 4000000
/-! K55e: the reader of rows. -/
namespace RX.Lawk55
open PySem PySem.Spec PyProof.Rows L2 RX
local macro_rules | `(tactic| walk_at "w") => `(tactic| ((conv => whnf); repeat ((first | refine bT rfl ?_ | refine bF rfl ?_ | refine ⟨_, rfl, ?_⟩ | refine ⟨_, _, rfl, rfl, ?_⟩ | refine ⟨_, _, rfl, ?_⟩ | refine ⟨rfl, ?_⟩ | refine szA rfl ?_ | refine ⟨by decide, ?_⟩); (conv => whnf))))
variable {w : World}
abbrev rdr (a1 a2 a3 a4 : Addr) : DO := .ins "Reader" ["kinds", "makers", "templates", "units"] [.ref a1, .ref a2, .ref a3, .ref a4]
structure Rd4 (M : MM) (p a1 a2 a3 a4 : Addr) (k1 : List Key) (d1 : List D) (k2 : List Key) (d2 : List D) : Prop where
  r : M p = some (rdr a1 a2 a3 a4)
  m1 : M a1 = some (.dct k1 d1)
  m2 : M a2 = some (.dct k2 d2)
  m3 : M a3 = some (.dct [] [])
  m4 : M a4 = some (.dct [] [])
  n12 : a1 ≠ a2
  n13 : a1 ≠ a3
  n14 : a1 ≠ a4
  n23 : a2 ≠ a3
  n24 : a2 ≠ a4
theorem T_room : (L w).T ("Reader", some "has_room") = some f_Reader__has_room := by kernel_rfl
theorem T_rinit : (L w).T ("Reader", some "__init__") = some f_Reader____init := by kernel_rfl
theorem T_read : (L w).T ("Reader", some "read") = some f_Reader__read := by kernel_rfl
theorem T_named : (L w).T ("Reader", some "read_named") = some f_Reader__read_named := by kernel_rfl
theorem T_kf : (L w).T ("Reader", some "kinds_from") = some f_Reader__kinds_from := by kernel_rfl
theorem fr_kinds : (L w).fx "Reader" "kinds" = true := fx_of (by kernel_rfl)
theorem fr_makers : (L w).fx "Reader" "makers" = true := fx_of (by kernel_rfl)
theorem fr_templates : (L w).fx "Reader" "templates" = true := fx_of (by kernel_rfl)
theorem fr_units : (L w).fx "Reader" "units" = true := fx_of (by kernel_rfl)
theorem hr_room : (L w).hx "Reader" "has_room" = true := hx_of (by kernel_rfl)
theorem hr_read : (L w).hx "Reader" "read" = true := hx_of (by kernel_rfl)
theorem hr_named : (L w).hx "Reader" "read_named" = true := hx_of (by kernel_rfl)
theorem hr_kf : (L w).hx "Reader" "kinds_from" = true := hx_of (by kernel_rfl)
theorem g_kinds : (L w).gx "MOST_KINDS" = some (.int 8) := gx_of (by kernel_rfl)
theorem g_makers : (L w).gx "MOST_MAKERS" = some (.int 24) := gx_of (by kernel_rfl)
theorem g_defs : (L w).gx "MOST_DEFINITIONS" = some (.int 12) := gx_of (by kernel_rfl)
theorem g_units : (L w).gx "MOST_UNITS" = some (.int 6) := gx_of (by kernel_rfl)
theorem g_args : (L w).gx "MOST_ARGS" = some (.int 3) := gx_of (by kernel_rfl)
def sortsL : List Str := ["kind", "make", "template", "case", "unit", "see", "root"]
theorem g_sorts : (L w).gx "SORTS" = some (.tup (sortsL.map .str)) := gx_of (by kernel_rfl)
section
variable {n : Nat} {p q a1 a2 a3 a4 : Addr} {k1 k2 : List Key} {d1 d2 : List D} {M : MM} {Q : DV} {E : XD}
theorem ne_rw {r : Int} {ws : List Str} {k : Nat} (R : M p = some (rdr a1 a2 a3 a4)) (h : M q = some (wrd r ws k)) : p ≠ q := fun e => by
  rw [e, h] at R
  injection R with R
  injection R with R _ _
  exact absurd R (by decide)
theorem ne_dw {r : Int} {ws : List Str} {k : Nat} {ks : List Key} {ds : List D} {a : Addr} (R : M a = some (.dct ks ds)) (h : M q = some (wrd r ws k)) : a ≠ q := fun e => by
  rw [e, h] at R
  cases R
theorem ne_rd {ks : List Key} {ds : List D} {a : Addr} (R : M p = some (rdr a1 a2 a3 a4)) (h : M a = some (.dct ks ds)) : p ≠ a := fun e => by
  rw [e, h] at R
  cases R
theorem Rd4.put1 (h : Rd4 M p a1 a2 a3 a4 k1 d1 k2 d2) {b : Addr} {o : DO} (hp : p ≠ b) (h1 : a1 ≠ b) (h2 : a2 ≠ b) (h3 : a3 ≠ b) (h4 : a4 ≠ b) : Rd4 (up M b o) p a1 a2 a3 a4 k1 d1 k2 d2 :=
  ⟨by rw [up_ne hp]; exact h.r, by rw [up_ne h1]; exact h.m1, by rw [up_ne h2]; exact h.m2, by rw [up_ne h3]; exact h.m3, by rw [up_ne h4]; exact h.m4, h.n12, h.n13, h.n14, h.n23, h.n24⟩
theorem Rd4.upw (h : Rd4 M p a1 a2 a3 a4 k1 d1 k2 d2) {r : Int} {ws : List Str} {k : Nat} (hq : M q = some (wrd r ws k)) {o : DO} : Rd4 (up M q o) p a1 a2 a3 a4 k1 d1 k2 d2 := h.put1 (ne_rw h.r hq) (ne_dw h.m1 hq) (ne_dw h.m2 hq) (ne_dw h.m3 hq) (ne_dw h.m4 hq)
theorem ct_room {s : Str} (h : Rd4 M p a1 a2 a3 a4 k1 d1 k2 d2) (hs : s = "kind" ∨ s = "make") (l1 : k1.length < 8) (l2 : k2.length < 24) (qq : Q (.bl true) M) : (L w).cl (n + 1) ("Reader", some "has_room") [.ref p, .str s] M Q E := by
  rw [Law.stp T_room]
  rcases hs with rfl | rfl
  · walk_at "w"
    refine ⟨_, _, _, _, _, rfl, h.r, fr_kinds, rfl, ?_⟩
    walk_at "w"
    refine ⟨_, g_kinds, ?_⟩
    walk_at "w"
    refine ⟨_, _, _, _, _, rfl, h.r, fr_makers, rfl, ?_⟩
    walk_at "w"
    refine ⟨_, g_makers, ?_⟩
    walk_at "w"
    refine ⟨_, _, _, _, _, rfl, h.r, fr_templates, rfl, ?_⟩
    walk_at "w"
    refine ⟨_, g_defs, ?_⟩
    walk_at "w"
    refine ⟨_, _, _, _, _, rfl, h.r, fr_units, rfl, ?_⟩
    walk_at "w"
    refine ⟨_, g_units, ?_⟩
    walk_at "w"
    refine .inr ⟨_, _, dcOf_ref h.m1, ?_⟩
    walk_at "w"
    rw [show decide ((k1.length : Int) < 8) = true from decide_eq_true (by omega)]
    exact rt_ qq
  · walk_at "w"
    refine ⟨_, _, _, _, _, rfl, h.r, fr_kinds, rfl, ?_⟩
    walk_at "w"
    refine ⟨_, g_kinds, ?_⟩
    walk_at "w"
    refine ⟨_, _, _, _, _, rfl, h.r, fr_makers, rfl, ?_⟩
    walk_at "w"
    refine ⟨_, g_makers, ?_⟩
    walk_at "w"
    refine ⟨_, _, _, _, _, rfl, h.r, fr_templates, rfl, ?_⟩
    walk_at "w"
    refine ⟨_, g_defs, ?_⟩
    walk_at "w"
    refine ⟨_, _, _, _, _, rfl, h.r, fr_units, rfl, ?_⟩
    walk_at "w"
    refine ⟨_, g_units, ?_⟩
    walk_at "w"
    refine .inr ⟨_, _, dcOf_ref h.m2, ?_⟩
    walk_at "w"
    rw [show decide ((k2.length : Int) < 24) = true from decide_eq_true (by omega)]
    exact rt_ qq
def wsK : List Str := ["kind", "a", "closed"]
def wsM : List Str := ["make", "c", "(", ")", "a"]
theorem ct_named_kind {r : Int} (h : Rd4 M p a1 a2 a3 a4 [] [] k2 d2) (hq : M q = some (wrd r wsK 1)) (qq : Q .non (up (up M q (wrd r wsK 3)) a1 (.dct [.inr "a"] [.str "closed"]))) : (L w).cl (n + 3) ("Reader", some "read_named") [.ref p, .ref q, .str "kind"] M Q E := by
  rw [Law.stp T_named]
  walk_at "w"
  refine ⟨_, _, _, _, rfl, hq, by decide, hw_fresh, ?_⟩
  walk_at "w"
  refine ⟨_, _, _, _, _, rfl, h.r, fr_kinds, rfl, ?_⟩
  walk_at "w"
  refine ct_fresh (x := "a") hq rfl (.inl rfl) (.inr ⟨_, _, _, rfl, h.m1, rfl⟩) ?_
  have h2 := h.upw (o := wrd r wsK (1 + 1)) hq
  walk_at "w"
  refine ⟨_, _, _, _, rfl, up_same, by decide, hw_choose, ?_⟩
  walk_at "w"
  refine ct_choose (x := "closed") up_same rfl (.inl ⟨["open", "closed"], rfl, by decide⟩) ?_
  rw [up_up]
  have h3 := h.upw (o := wrd r wsK (1 + 1 + 1)) hq
  walk_at "w"
  refine ⟨_, _, _, _, _, rfl, h3.r, fr_kinds, rfl, ?_⟩
  walk_at "w"
  refine ⟨_, _, h3.m1, of_decide_eq_true rfl, ?_⟩
  walk_at "w"
  exact rt_ qq
theorem ct_kf {r : Int} (hr : M p = some (rdr a1 a2 a3 a4)) (hq : M q = some (wrd r wsM 2)) (qq : Q (.tup []) (up M q (wrd r wsM 4))) : (L w).cl (n + 3) ("Reader", some "kinds_from") [.ref p, .ref q, .int 0, .int 3] M Q E := by
  rw [Law.stp T_kf]
  walk_at "w"
  refine ⟨_, _, _, _, rfl, hq, by decide, hw_take, ?_⟩
  walk_at "w"
  refine ct_take hq rfl ?_
  walk_at "w"
  intro f hf
  have hne : q ≠ f := fun e => by rw [← e, up_same] at hf; cases hf
  have hf0 : M f = none := by rw [up_ne (Ne.symm hne)] at hf; exact hf
  walk_at "w"
  refine ⟨_, _, _, _, rfl, by rw [up_ne hne]; exact up_same, by decide, hw_word, ?_⟩
  walk_at "w"
  refine ct_word (by rw [up_ne hne]; exact up_same) ?_
  walk_at "w"
  refine ⟨_, _, _, _, rfl, by rw [up_ne hne]; exact up_same, by decide, hw_take, ?_⟩
  walk_at "w"
  refine ct_take (by rw [up_ne hne]; exact up_same) rfl ?_
  walk_at "w"
  refine ⟨_, lsOf_ref (by rw [up_ne (Ne.symm hne)]; exact up_same), ?_⟩
  refine ⟨up M q (wrd r wsM 4), fun b o e => ?_, qq⟩
  by_cases hb : b = q
  · subst hb
    rw [up_same] at e ⊢
    exact e
  · rw [up_ne hb] at e
    have hbf : b ≠ f := fun z => by rw [z, hf0] at e; cases e
    rw [up_ne hb, up_ne hbf, up_ne hb]
    exact e
theorem ct_named_make {r : Int} (h : Rd4 M p a1 a2 a3 a4 [.inr "a"] [.str "closed"] [] []) (hq : M q = some (wrd r wsM 1)) (qq : Q .non (up (up M q (wrd r wsM 5)) a2 (.dct [.inr "c"] [.tup [.tup [], .str "a"]]))) : (L w).cl (n + 4) ("Reader", some "read_named") [.ref p, .ref q, .str "make"] M Q E := by
  rw [Law.stp T_named]
  walk_at "w"
  refine ⟨_, _, _, _, rfl, hq, by decide, hw_fresh, ?_⟩
  walk_at "w"
  refine ⟨_, _, _, _, _, rfl, h.r, fr_makers, rfl, ?_⟩
  refine ⟨_, _, dcOf_ref h.m2, ?_⟩
  walk_at "w"
  refine ⟨_, _, _, _, _, rfl, h.r, fr_templates, rfl, ?_⟩
  refine ⟨_, _, dcOf_ref h.m3, ?_⟩
  walk_at "w"
  refine ct_fresh (x := "c") hq rfl (.inr rfl) (.inl rfl) ?_
  have h2 := h.upw (o := wrd r wsM (1 + 1)) hq
  walk_at "w"
  refine ⟨_, g_args, ?_⟩
  walk_at "w"
  refine ⟨_, _, _, _, rfl, h2.r, by decide, hr_kf, ?_⟩
  walk_at "w"
  refine ct_kf h2.r up_same ?_
  rw [up_up]
  have h3 := h.upw (o := wrd r wsM 4) hq
  walk_at "w"
  refine ⟨_, _, _, _, rfl, up_same, by decide, hw_choose, ?_⟩
  walk_at "w"
  refine ⟨_, _, _, _, _, rfl, h3.r, fr_kinds, rfl, ?_⟩
  walk_at "w"
  refine ct_choose (x := "a") up_same rfl (.inr ⟨_, _, _, rfl, h3.m1, rfl⟩) ?_
  rw [up_up]
  have h4 := h.upw (o := wrd r wsM (4 + 1)) hq
  walk_at "w"
  refine ⟨_, _, _, _, _, rfl, h4.r, fr_makers, rfl, ?_⟩
  walk_at "w"
  refine ⟨_, _, h4.m2, of_decide_eq_true rfl, ?_⟩
  walk_at "w"
  exact rt_ qq
theorem ct_read_kind {r : Int} (h : Rd4 M p a1 a2 a3 a4 [] [] [] []) (hq : M q = some (wrd r wsK 0)) (qq : Q .non (up (up M q (wrd r wsK 3)) a1 (.dct [.inr "a"] [.str "closed"]))) : (L w).cl (n + 5) ("Reader", some "read") [.ref p, .ref q] M Q E := by
  rw [Law.stp T_read]
  walk_at "w"
  refine ⟨_, _, _, _, rfl, hq, by decide, hw_word, ?_⟩
  walk_at "w"
  refine ct_word hq ?_
  walk_at "w"
  refine ⟨_, g_sorts, ?_⟩
  walk_at "w"
  refine ⟨_, inR_str "kind" sortsL, ?_⟩
  walk_at "w"
  refine ⟨_, _, _, _, rfl, h.r, by decide, hr_room, ?_⟩
  walk_at "w"
  refine ct_room h (.inl rfl) (by decide) (by decide) ?_
  walk_at "w"
  refine ⟨_, _, _, _, rfl, hq, by decide, hw_take, ?_⟩
  walk_at "w"
  refine ct_take hq rfl ?_
  have h2 := h.upw (o := wrd r wsK (0 + 1)) hq
  walk_at "w"
  refine ⟨_, inR_str "kind" ["kind", "make", "template"], ?_⟩
  walk_at "w"
  refine ⟨_, _, _, _, rfl, h2.r, by decide, hr_named, ?_⟩
  walk_at "w"
  refine ct_named_kind h2 up_same ?_
  rw [up_up]
  have hq3 : (up (up M q (wrd r wsK 3)) a1 (.dct [.inr "a"] [.str "closed"])) q = some (wrd r wsK 3) := by rw [up_ne (Ne.symm (ne_dw h.m1 hq)), up_same]
  walk_at "w"
  refine ⟨_, _, _, _, rfl, hq3, by decide, hw_end, ?_⟩
  walk_at "w"
  refine ct_end hq3 (by decide) ?_
  exact rt_ qq
theorem ct_read_make {r : Int} (h : Rd4 M p a1 a2 a3 a4 [.inr "a"] [.str "closed"] [] []) (hq : M q = some (wrd r wsM 0)) (qq : Q .non (up (up M q (wrd r wsM 5)) a2 (.dct [.inr "c"] [.tup [.tup [], .str "a"]]))) : (L w).cl (n + 5) ("Reader", some "read") [.ref p, .ref q] M Q E := by
  rw [Law.stp T_read]
  walk_at "w"
  refine ⟨_, _, _, _, rfl, hq, by decide, hw_word, ?_⟩
  walk_at "w"
  refine ct_word hq ?_
  walk_at "w"
  refine ⟨_, g_sorts, ?_⟩
  walk_at "w"
  refine ⟨_, inR_str "make" sortsL, ?_⟩
  walk_at "w"
  refine ⟨_, _, _, _, rfl, h.r, by decide, hr_room, ?_⟩
  walk_at "w"
  refine ct_room h (.inr rfl) (by decide) (by decide) ?_
  walk_at "w"
  refine ⟨_, _, _, _, rfl, hq, by decide, hw_take, ?_⟩
  walk_at "w"
  refine ct_take hq rfl ?_
  have h2 := h.upw (o := wrd r wsM (0 + 1)) hq
  walk_at "w"
  refine ⟨_, inR_str "make" ["kind", "make", "template"], ?_⟩
  walk_at "w"
  refine ⟨_, _, _, _, rfl, h2.r, by decide, hr_named, ?_⟩
  walk_at "w"
  refine ct_named_make h2 up_same ?_
  rw [up_up]
  have hq3 : (up (up M q (wrd r wsM 5)) a2 (.dct [.inr "c"] [.tup [.tup [], .str "a"]])) q = some (wrd r wsM 5) := by rw [up_ne (Ne.symm (ne_dw h.m2 hq)), up_same]
  walk_at "w"
  refine ⟨_, _, _, _, rfl, hq3, by decide, hw_end, ?_⟩
  walk_at "w"
  refine ct_end hq3 (by decide) ?_
  exact rt_ qq
end
end RX.Lawk55
set_option Elab.async false
set_option linter.all false
set_option pp.deepTerms false
set_option pp.deepTerms.threshold 8
set_option maxRecDepth 1000000
set_option maxHeartbeats 4000000
/-! K55f: rows are read, lines are said. -/
namespace RX.Lawk55
open PySem PySem.Spec PyProof.Rows L2 RX
local macro_rules | `(tactic| walk_at "w") => `(tactic| ((conv => whnf); repeat ((first | refine bT rfl ?_ | refine bF rfl ?_ | refine ⟨_, rfl, ?_⟩ | refine ⟨_, _, rfl, rfl, ?_⟩ | refine ⟨_, _, rfl, ?_⟩ | refine ⟨rfl, ?_⟩ | refine szA rfl ?_ | refine ⟨by decide, ?_⟩); (conv => whnf))))
variable {w : World}
theorem T_rows_in : (L w).T ("rows_in", none) = some f_rows_in := by kernel_rfl
theorem T_reader_of : (L w).T ("reader_of", none) = some f_reader_of := by kernel_rfl
theorem T_with_row : (L w).T ("with_row", none) = some f_with_row := by kernel_rfl
theorem T_said_by : (L w).T ("said_by", none) = some f_said_by := by kernel_rfl
theorem T_said : (L w).T ("said", none) = some f_said := by kernel_rfl
theorem px_Reader : (L w).px "Reader" = (["self"] : List Str) := px_of (by kernel_rfl)
theorem px_Words : (L w).px "Words" = (["self", "row", "words"] : List Str) := px_of (by kernel_rfl)
def row1 : Str := "kind a closed"
def row2 : Str := "make c ( ) a"
def text2 : Str := "kind a closed\nmake c ( ) a"
def line2 : Str := "make c () a"
def rowsL (t : Str) : List Str := if t = "" then [] else Txt.split t "\n"
def textOf (k : Nat) : Str := match k with
  | 0 => ""
  | 1 => row1
  | _ => text2
def early (k : Nat) : List Str := match k with
  | 0 => []
  | 1 => [""]
  | _ => ["", row1]
def conD (k : Nat) : D := .tup [.str (textOf k), .tup ((early k).map .str)]
theorem rows0 : rowsL "" = [] := rfl
theorem rows1 : rowsL row1 = [row1] := by decide +kernel
theorem rows2 : rowsL text2 = [row1, row2] := by decide +kernel
theorem w1 : wordsF row1 = wsK := by decide +kernel
theorem w2 : wordsF row2 = wsM := by decide +kernel
theorem w2l : wordsF line2 = wsM := by decide +kernel
theorem wr : wordsF "rows" = (["rows"] : List Str) := by decide +kernel
section
variable {n : Nat} {M : MM} {Q : DV} {E : XD}
theorem ct_rows {t : Str} (hl : t.length ≤ 1000) (q : Q (.lst ((rowsL t).map .str)) M) : (L w).cl (n + 1) ("rows_in", none) [.str t] M Q E := by
  rw [Law.stp T_rows_in]
  walk_at "w"
  unfold rowsL at q
  by_cases h : t = ""
  · rw [if_pos h] at q
    refine bF (by rw [decide_eq_true h]; rfl) ?_
    walk_at "w"
    exact rt_ q
  · rw [if_neg h] at q
    refine bT (by rw [decide_eq_false h]; rfl) ?_
    walk_at "w"
    refine ⟨⟨_, rfl⟩, ?_⟩
    exact ⟨_, _, rfl, rfl, rfl, by rw [sizeLine_eq]; omega, rt_ q⟩
theorem stp4 {Mc : MM} {p a : Addr} {x o o' : DO} (hs : Sub M Mc) (hp : M p = none) (hc : Mc p = some x) (ha : Mc a = none) : Sub M (up (up Mc a o) p o') ∧ (up (up Mc a o) p o') a = some o ∧ a ≠ p ∧ M a = none ∧ ∀ b u, Mc b = some u → b ≠ p → (up (up Mc a o) p o') b = some u := by
  have hap : a ≠ p := fun e => by rw [e, hc] at ha; cases ha
  have hma : M a = none := by
    cases e : M a with
    | none => rfl
    | some u => rw [hs a u e] at ha; cases ha
  refine ⟨fun b u e => ?_, by rw [up_ne hap, up_same], hap, hma, fun b u e hb => ?_⟩
  · have h1 : b ≠ p := fun z => by rw [z, hp] at e; cases e
    have h2 : b ≠ a := fun z => by rw [z, hma] at e; cases e
    rw [up_ne h1, up_ne h2]
    exact hs b u e
  · have h2 : b ≠ a := fun z => by rw [z, ha] at e; cases e
    rw [up_ne hb, up_ne h2]
    exact e
theorem ct_rinit {p : Addr} (hp : M p = none) (q : ∀ a1 a2 a3 a4 M', Sub M M' → M a1 = none → M a2 = none → Rd4 M' p a1 a2 a3 a4 [] [] [] [] → Q .non M') : (L w).ini (n + 2) ("Reader", some "__init__") [.ref p] (up M p (.ins "Reader" [] [])) Q E := by
  rw [Law.ini_s, Law.stp T_rinit]
  have s0 : Sub M (up M p (.ins "Reader" [] [])) := sub_up hp
  have p0 : (up M p (.ins "Reader" [] [])) p = some (.ins "Reader" [] []) := up_same
  generalize up M p (.ins "Reader" [] []) = M0 at *
  walk_at "w"
  intro a1 h1
  walk_at "w"
  have n1 : p ≠ a1 := fun e => by rw [← e, p0] at h1; cases h1
  refine ⟨_, _, _, _, rfl, by rw [up_ne n1]; exact p0, fr_kinds, by decide, ?_⟩
  obtain ⟨s1, x1, y1, z1, k1⟩ := stp4 (o := .dct [] []) (o' := .ins "Reader" (putFD [] [] "kinds" (.ref a1)).1 (putFD [] [] "kinds" (.ref a1)).2) s0 hp p0 h1
  have p1 : (up (up M0 a1 (.dct [] [])) p (.ins "Reader" (putFD [] [] "kinds" (.ref a1)).1 (putFD [] [] "kinds" (.ref a1)).2)) p = some (.ins "Reader" ["kinds"] [.ref a1]) := up_same
  generalize up (up M0 a1 (.dct [] [])) p (.ins "Reader" (putFD [] [] "kinds" (.ref a1)).1 (putFD [] [] "kinds" (.ref a1)).2) = M1 at *
  walk_at "w"
  intro a2 h2
  walk_at "w"
  have n2 : p ≠ a2 := fun e => by rw [← e, p1] at h2; cases h2
  refine ⟨_, _, _, _, rfl, by rw [up_ne n2]; exact p1, fr_makers, by decide, ?_⟩
  obtain ⟨s2, x2, y2, z2, k2⟩ := stp4 (o := .dct [] []) (o' := .ins "Reader" (putFD ["kinds"] [.ref a1] "makers" (.ref a2)).1 (putFD ["kinds"] [.ref a1] "makers" (.ref a2)).2) s1 hp p1 h2
  have p2 : (up (up M1 a2 (.dct [] [])) p (.ins "Reader" (putFD ["kinds"] [.ref a1] "makers" (.ref a2)).1 (putFD ["kinds"] [.ref a1] "makers" (.ref a2)).2)) p = some (.ins "Reader" ["kinds", "makers"] [.ref a1, .ref a2]) := up_same
  generalize up (up M1 a2 (.dct [] [])) p (.ins "Reader" (putFD ["kinds"] [.ref a1] "makers" (.ref a2)).1 (putFD ["kinds"] [.ref a1] "makers" (.ref a2)).2) = M2 at *
  walk_at "w"
  intro a3 h3
  walk_at "w"
  have n3 : p ≠ a3 := fun e => by rw [← e, p2] at h3; cases h3
  refine ⟨_, _, _, _, rfl, by rw [up_ne n3]; exact p2, fr_templates, by decide, ?_⟩
  obtain ⟨s3, x3, y3, z3, k3⟩ := stp4 (o := .dct [] []) (o' := .ins "Reader" (putFD ["kinds", "makers"] [.ref a1, .ref a2] "templates" (.ref a3)).1 (putFD ["kinds", "makers"] [.ref a1, .ref a2] "templates" (.ref a3)).2) s2 hp p2 h3
  have p3 : (up (up M2 a3 (.dct [] [])) p (.ins "Reader" (putFD ["kinds", "makers"] [.ref a1, .ref a2] "templates" (.ref a3)).1 (putFD ["kinds", "makers"] [.ref a1, .ref a2] "templates" (.ref a3)).2)) p = some (.ins "Reader" ["kinds", "makers", "templates"] [.ref a1, .ref a2, .ref a3]) := up_same
  generalize up (up M2 a3 (.dct [] [])) p (.ins "Reader" (putFD ["kinds", "makers"] [.ref a1, .ref a2] "templates" (.ref a3)).1 (putFD ["kinds", "makers"] [.ref a1, .ref a2] "templates" (.ref a3)).2) = M3 at *
  walk_at "w"
  intro a4 h4
  walk_at "w"
  have n4 : p ≠ a4 := fun e => by rw [← e, p3] at h4; cases h4
  refine ⟨_, _, _, _, rfl, by rw [up_ne n4]; exact p3, fr_units, by decide, ?_⟩
  obtain ⟨s4, x4, y4, z4, k4⟩ := stp4 (o := .dct [] []) (o' := .ins "Reader" (putFD ["kinds", "makers", "templates"] [.ref a1, .ref a2, .ref a3] "units" (.ref a4)).1 (putFD ["kinds", "makers", "templates"] [.ref a1, .ref a2, .ref a3] "units" (.ref a4)).2) s3 hp p3 h4
  refine rt_ (q a1 a2 a3 a4 _ s4 z1 z2 ⟨up_same, k4 _ _ (k3 _ _ (k2 _ _ x1 y1) y1) y1, k4 _ _ (k3 _ _ x2 y2) y2, k4 _ _ x3 y3, x4, ?_, ?_, ?_, ?_, ?_⟩)
  · intro e
    rw [← e, x1] at h2
    cases h2
  · intro e
    rw [← e, k2 _ _ x1 y1] at h3
    cases h3
  · intro e
    rw [← e, k3 _ _ (k2 _ _ x1 y1) y1] at h4
    cases h4
  · intro e
    rw [← e, x2] at h3
    cases h3
  · intro e
    rw [← e, k3 _ _ x2 y2] at h4
    cases h4
def kAt (i : Nat) : List Key := if i = 0 then [] else [.inr "a"]
def dAt (i : Nat) : List D := if i = 0 then [] else [.str "closed"]
def kAt2 (i : Nat) : List Key := if i ≤ 1 then [] else [.inr "c"]
def dAt2 (i : Nat) : List D := if i ≤ 1 then [] else [.tup [.tup [], .str "a"]]
theorem pairD_at : ∀ (xs : List D) (k i : Nat), (pairD xs k)[i]? = xs[i]?.map fun x => .wtp [.int ((k + i : Nat) : Int), x]
  | [], _, _ => rfl
  | x :: xs, k, 0 => rfl
  | x :: xs, k, i + 1 => by
    show (pairD xs (k + 1))[i]? = _
    rw [pairD_at xs (k + 1) i, List.getElem?_cons_succ, show k + 1 + i = k + (i + 1) by omega]
theorem pairD_len : ∀ (xs : List D) (k : Nat), (pairD xs k).length = xs.length
  | [], _ => rfl
  | x :: xs, k => by
    show (pairD xs (k + 1)).length + 1 = _
    rw [pairD_len xs]
    rfl
theorem ct_reader {m : Nat} (hm : m = 1 ∨ m = 2) (q : ∀ d, Q d M) : (L w).cl (n + 7) ("reader_of", none) [.str (textOf m)] M Q E := by
  rw [Law.stp T_reader_of]
  have hlen : (textOf m).length ≤ 1000 := by rcases hm with rfl | rfl <;> decide
  have hrows : rowsL (textOf m) = [row1, row2].take m := by
    rcases hm with rfl | rfl
    · exact rows1
    · exact rows2
  generalize htx : textOf m = tx at *
  walk_at "w"
  refine ⟨by show _ = ((L w).px "Reader").length; rw [px_Reader]; rfl, ?_⟩
  intro p hp
  refine ct_rinit hp fun a1 a2 a3 a4 M' sb z1 z2 rd => ?_
  refine ⟨rfl, ?_⟩
  walk_at "w"
  refine ct_rows hlen ?_
  rw [hrows]
  refine fo_all (fun i σ M'' => Sub M M'' ∧ Rd4 M'' p a1 a2 a3 a4 (kAt i) (dAt i) (kAt2 i) (dAt2 i) ∧ ∃ o2 o3 o4 : Option D, σ = [some (.str tx), some (.ref p), o2, o3, o4]) (fun _ _ _ _ => trivial) ?_ ?_ ⟨sb, rd, _, _, _, rfl⟩
  · intro i y hy K σ M'' ⟨sb', rd', o2, o3, o4, eσ⟩ hK
    subst eσ
    rw [pairD_at, Nat.zero_add, List.getElem?_map] at hy
    obtain ⟨rw0, hr0, rfl⟩ := Option.map_eq_some_iff.mp hy
    obtain ⟨row, hr, rfl⟩ := Option.map_eq_some_iff.mp hr0
    have hi2 : i < 2 := by
      have := (List.getElem?_eq_some_iff.mp hr).1
      rw [List.length_take] at this
      have : i < min m 2 := this
      omega
    have hr2 : ([row1, row2] : List Str)[i]? = some row := by
      rw [List.getElem?_take] at hr
      split at hr
      · exact hr
      · cases hr
    match i, hi2 with
    | 0, _ =>
      obtain rfl : row1 = row := by simpa using hr2
      walk_at "w"
      refine ct_words (by decide +kernel) (by decide +kernel) ?_
      rw [w1]
      walk_at "w"
      refine ⟨false, .len rfl rfl (by decide), ?_⟩
      walk_at "w"
      refine ⟨_, _, _, _, rfl, rd'.r, by decide, hr_read, ?_⟩
      walk_at "w"
      refine ⟨by show _ = ((L w).px "Words").length; rw [px_Words]; rfl, ?_⟩
      intro q0 hq0
      refine ct_winit ?_
      refine ⟨rfl, ?_⟩
      have hap : ∀ b u, M'' b = some u → b ≠ q0 := fun b u e z => by rw [z, hq0] at e; cases e
      have rq : Rd4 (up M'' q0 (wrd 0 wsK 0)) p a1 a2 a3 a4 [] [] [] [] := rd'.put1 (hap _ _ rd'.r) (hap _ _ rd'.m1) (hap _ _ rd'.m2) (hap _ _ rd'.m3) (hap _ _ rd'.m4)
      refine ct_read_kind (r := 0) rq up_same ?_
      rw [up_up]
      walk_at "w"
      have hmq : M q0 = none := by
        cases e : M q0 with
        | none => rfl
        | some u => rw [sb' _ _ e] at hq0; cases hq0
      refine hK _ _ ⟨fun b u e => ?_, ?_, _, _, _, rfl⟩
      · have h1 : b ≠ a1 := fun z => by rw [z, z1] at e; cases e
        have h2 : b ≠ q0 := fun z => by rw [z, hmq] at e; cases e
        rw [up_ne h1, up_ne h2]
        exact sb' b u e
      · have rz : Rd4 (up M'' q0 (wrd 0 wsK 3)) p a1 a2 a3 a4 [] [] [] [] := rd'.put1 (hap _ _ rd'.r) (hap _ _ rd'.m1) (hap _ _ rd'.m2) (hap _ _ rd'.m3) (hap _ _ rd'.m4)
        exact ⟨by rw [up_ne (ne_rd rz.r rz.m1)]; exact rz.r, up_same, by rw [up_ne (Ne.symm rz.n12)]; exact rz.m2, by rw [up_ne (Ne.symm rz.n13)]; exact rz.m3, by rw [up_ne (Ne.symm rz.n14)]; exact rz.m4, rz.n12, rz.n13, rz.n14, rz.n23, rz.n24⟩
    | 1, _ =>
      obtain rfl : row2 = row := by simpa using hr2
      walk_at "w"
      refine ct_words (by decide +kernel) (by decide +kernel) ?_
      rw [w2]
      walk_at "w"
      refine ⟨false, .len rfl rfl (by decide), ?_⟩
      walk_at "w"
      refine ⟨_, _, _, _, rfl, rd'.r, by decide, hr_read, ?_⟩
      walk_at "w"
      refine ⟨by show _ = ((L w).px "Words").length; rw [px_Words]; rfl, ?_⟩
      intro q0 hq0
      refine ct_winit ?_
      refine ⟨rfl, ?_⟩
      have hap : ∀ b u, M'' b = some u → b ≠ q0 := fun b u e z => by rw [z, hq0] at e; cases e
      have rq : Rd4 (up M'' q0 (wrd 1 wsM 0)) p a1 a2 a3 a4 [.inr "a"] [.str "closed"] [] [] := rd'.put1 (hap _ _ rd'.r) (hap _ _ rd'.m1) (hap _ _ rd'.m2) (hap _ _ rd'.m3) (hap _ _ rd'.m4)
      refine ct_read_make (r := 1) rq up_same ?_
      rw [up_up]
      walk_at "w"
      have hmq : M q0 = none := by
        cases e : M q0 with
        | none => rfl
        | some u => rw [sb' _ _ e] at hq0; cases hq0
      refine hK _ _ ⟨fun b u e => ?_, ?_, _, _, _, rfl⟩
      · have h1 : b ≠ a2 := fun z => by rw [z, z2] at e; cases e
        have h2 : b ≠ q0 := fun z => by rw [z, hmq] at e; cases e
        rw [up_ne h1, up_ne h2]
        exact sb' b u e
      · have rz : Rd4 (up M'' q0 (wrd 1 wsM 5)) p a1 a2 a3 a4 [.inr "a"] [.str "closed"] [] [] := rd'.put1 (hap _ _ rd'.r) (hap _ _ rd'.m1) (hap _ _ rd'.m2) (hap _ _ rd'.m3) (hap _ _ rd'.m4)
        exact ⟨by rw [up_ne (ne_rd rz.r rz.m2)]; exact rz.r, by rw [up_ne rz.n12]; exact rz.m1, up_same, by rw [up_ne (Ne.symm rz.n23)]; exact rz.m3, by rw [up_ne (Ne.symm rz.n24)]; exact rz.m4, rz.n12, rz.n13, rz.n14, rz.n23, rz.n24⟩
  intro σ M'' ⟨sb', _, o2, o3, o4, eσ⟩
  subst eσ
  walk_at "w"
  exact ⟨M, sb', q _⟩
end
end RX.Lawk55
set_option Elab.async false
set_option linter.all false
set_option pp.deepTerms false
set_option pp.deepTerms.threshold 8
set_option maxRecDepth 1000000
set_option maxHeartbeats 4000000
/-! K55g: lines are said. -/
namespace RX.Lawk55
open PySem PySem.Spec PyProof.Rows L2 RX
local macro_rules | `(tactic| walk_at "w") => `(tactic| ((conv => whnf); repeat ((first | refine bT rfl ?_ | refine bF rfl ?_ | refine ⟨_, rfl, ?_⟩ | refine ⟨_, _, rfl, rfl, ?_⟩ | refine ⟨_, _, rfl, ?_⟩ | refine ⟨rfl, ?_⟩ | refine szA rfl ?_ | refine ⟨by decide, ?_⟩); (conv => whnf))))
variable {w : World}
theorem g_earlier : (L w).gx "MOST_EARLIER" = some (.int 20) := gx_of (by kernel_rfl)
theorem g_lines : (L w).gx "MOST_LINES" = some (.int 60) := gx_of (by kernel_rfl)
def asksL : List Str := ["choose", "run", "count", "label", "fault", "dead", "closing", "groups", "ending", "needed", "unlike", "link"]
def aloneL : List Str := ["back", "rows", "show"]
theorem g_asks : (L w).gx "ASKS" = some (.tup (asksL.map .str)) := gx_of (by kernel_rfl)
theorem g_alone : (L w).gx "ALONE" = some (.tup (aloneL.map .str)) := gx_of (by kernel_rfl)
theorem j1 : Txt.join " " wsK = row1 := by decide +kernel
theorem j2 : Txt.join " " wsM = row2 := by decide +kernel
theorem jt1 : Txt.join "\n" [row1] = row1 := by decide +kernel
theorem jt2 : Txt.join "\n" [row1, row2] = text2 := by decide +kernel
section
variable {n : Nat} {M : MM} {Q : DV} {E : XD}
theorem ct_with1 (q : Q (.tup [conD 1, .str "taken"]) M) : (L w).cl (n + 8) ("with_row", none) [conD 0, .lst (wsK.map .str)] M Q E := by
  rw [Law.stp T_with_row]
  walk_at "w"
  refine ⟨⟨_, rfl⟩, ?_⟩
  walk_at "w"
  refine ct_rows (t := "") (by decide) ?_
  rw [rows0]
  refine ⟨_, rfl, ⟨_, rfl⟩, ?_⟩
  walk_at "w"
  rw [j1]
  refine ⟨_, [row1], rfl, rfl, by decide +kernel, ?_⟩
  rw [jt1]
  walk_at "w"
  refine ct_reader (m := 1) (.inl rfl) fun d => ?_
  walk_at "w"
  refine ⟨_, g_earlier, ?_⟩
  walk_at "w"
  exact rt_ q
theorem ct_with2 (q : Q (.tup [conD 2, .str "taken"]) M) : (L w).cl (n + 8) ("with_row", none) [conD 1, .lst (wsM.map .str)] M Q E := by
  rw [Law.stp T_with_row]
  walk_at "w"
  refine ⟨⟨_, rfl⟩, ?_⟩
  walk_at "w"
  refine ct_rows (t := row1) (by decide) ?_
  rw [rows1]
  refine ⟨_, rfl, ⟨_, rfl⟩, ?_⟩
  walk_at "w"
  rw [j2]
  refine ⟨_, [row1, row2], rfl, rfl, by decide +kernel, ?_⟩
  rw [jt2]
  walk_at "w"
  refine ct_reader (m := 2) (.inr rfl) fun d => ?_
  walk_at "w"
  refine ⟨_, g_earlier, ?_⟩
  walk_at "w"
  exact rt_ q
theorem ct_by1 (q : Q (.tup [conD 1, .str "taken"]) M) : (L w).cl (n + 9) ("said_by", none) [conD 0, .str row1] M Q E := by
  rw [Law.stp T_said_by]
  walk_at "w"
  refine ct_words (by decide +kernel) (by decide +kernel) ?_
  rw [w1]
  walk_at "w"
  refine bF (by decide +kernel) ?_
  walk_at "w"
  refine ⟨false, .len rfl rfl (by decide), ?_⟩
  walk_at "w"
  refine ⟨_, g_sorts, ?_⟩
  walk_at "w"
  refine ⟨_, inR_str "kind" sortsL, ?_⟩
  walk_at "w"
  refine ct_with1 ?_
  exact rt_ q
theorem ct_by2 (q : Q (.tup [conD 2, .str "taken"]) M) : (L w).cl (n + 9) ("said_by", none) [conD 1, .str line2] M Q E := by
  rw [Law.stp T_said_by]
  walk_at "w"
  refine ct_words (by decide +kernel) (by decide +kernel) ?_
  rw [w2l]
  walk_at "w"
  refine bF (by decide +kernel) ?_
  walk_at "w"
  refine ⟨false, .len rfl rfl (by decide), ?_⟩
  walk_at "w"
  refine ⟨_, g_sorts, ?_⟩
  walk_at "w"
  refine ⟨_, inR_str "make" sortsL, ?_⟩
  walk_at "w"
  refine ct_with2 ?_
  exact rt_ q
def cnt (k : Nat) : Str := toString ((rowsL (textOf k)).length : Int)
theorem ct_byr {k : Nat} (hk : k ≤ 2) (q : Q (.tup [conD k, .str (cnt k)]) M) : (L w).cl (n + 9) ("said_by", none) [conD k, .str "rows"] M Q E := by
  rw [Law.stp T_said_by]
  have hlen : (textOf k).length ≤ 1000 := by
    match k, hk with
    | 0, _ => decide
    | 1, _ => decide
    | 2, _ => decide
  have hlog : ((rowsL (textOf k)).length : Int).natAbs.log2 < 1920 := by
    match k, hk with
    | 0, _ => decide +kernel
    | 1, _ => decide +kernel
    | 2, _ => decide +kernel
  unfold cnt at q
  unfold conD at q ⊢
  generalize textOf k = t at *
  generalize (early k).map D.str = er at *
  walk_at "w"
  refine ct_words (by decide +kernel) (by decide +kernel) ?_
  rw [wr]
  walk_at "w"
  refine bF (by decide +kernel) ?_
  walk_at "w"
  refine ⟨false, .len rfl rfl (by decide), ?_⟩
  walk_at "w"
  refine ⟨_, g_sorts, ?_⟩
  walk_at "w"
  refine ⟨_, inR_str "rows" sortsL, ?_⟩
  walk_at "w"
  refine ⟨_, g_asks, ?_⟩
  walk_at "w"
  refine ⟨_, inR_str "rows" asksL, ?_⟩
  walk_at "w"
  refine ⟨_, g_alone, ?_⟩
  walk_at "w"
  refine ⟨_, inR_str "rows" aloneL, ?_⟩
  walk_at "w"
  refine ct_rows hlen ?_
  generalize hr : rowsL t = rr at *
  walk_at "w"
  rw [List.length_map]
  refine ⟨hlog, ?_⟩
  walk_at "w"
  exact rt_ q
theorem ct_said1 (q : Q (.tup [conD 1, .str "taken"]) M) : (L w).cl (n + 10) ("said", none) [conD 0, .str row1] M Q E := by
  rw [Law.stp T_said]
  walk_at "w"
  refine ct_by1 ?_
  exact rt_ q
theorem ct_said2 (q : Q (.tup [conD 2, .str "taken"]) M) : (L w).cl (n + 10) ("said", none) [conD 1, .str line2] M Q E := by
  rw [Law.stp T_said]
  walk_at "w"
  refine ct_by2 ?_
  exact rt_ q
theorem ct_saidx {con d : D} {m : String} (ht : tyOf M d = some (.bt m)) (hs : ([Ty.bt "str"].any (isTy (.bt m))) = false) (e : E "InvalidLines" ["index"] [.non] M) : (L w).cl (n + 1) ("said", none) [con, d] M Q E := by
  rw [Law.stp T_said]
  generalize hd : d = d0 at *
  walk_at "w"
  refine ⟨_, ht, ?_⟩
  refine bT (by rw [hs]; rfl) ?_
  walk_at "w"
  exact ⟨M, .refl, e⟩
theorem T_told_all : (L w).T ("told_all", none) = some f_told_all := by kernel_rfl
theorem ct_toldt {con d : D} {m : String} (ht : tyOf M d = some (.bt m)) (hs : ([Ty.bt "tuple"].any (isTy (.bt m))) = false) (e : E "InvalidLines" ["index"] [.non] M) : (L w).cl (n + 1) ("told_all", none) [con, d] M Q E := by
  rw [Law.stp T_told_all]
  generalize hd : d = d0 at *
  walk_at "w"
  refine ⟨_, ht, ?_⟩
  refine bT (by rw [hs]; rfl) ?_
  walk_at "w"
  exact ⟨M, .refl, e⟩
theorem ct_toldm {con : D} {xs : List D} (hx : 60 < xs.length) (e : E "InvalidLines" ["index"] [.non] M) : (L w).cl (n + 1) ("told_all", none) [con, .tup xs] M Q E := by
  rw [Law.stp T_told_all]
  walk_at "w"
  refine ⟨_, g_lines, ?_⟩
  walk_at "w"
  refine bT (decide_eq_true (by omega)) ?_
  walk_at "w"
  exact ⟨M, .refl, e⟩
/-- the first that is no text -/
theorem ct_toldi {con : D} {xs : List D} {j : Nat} {dj : D} {m : String} (hx : xs.length ≤ 60) (hj : xs[j]? = some dj) (ht : tyOf M dj = some (.bt m)) (hs : ([Ty.bt "str"].any (isTy (.bt m))) = false) (ha : ∀ i < j, xs[i]? = some (.str "rows")) (e : E "InvalidLines" ["index"] [.int (j : Int)] M) :
    (L w).cl (n + 1) ("told_all", none) [con, .tup xs] M Q E := by
  rw [Law.stp T_told_all]
  walk_at "w"
  refine ⟨_, g_lines, ?_⟩
  walk_at "w"
  refine bF (decide_eq_false (by omega)) ?_
  walk_at "w"
  refine fo_all (fun i σ M'' => M'' = M ∧ i ≤ j ∧ ∃ o2 o3 : Option D, σ = [some con, some (.tup xs), o2, o3, none, none]) (fun _ _ _ _ => trivial) ?_ ?_ ⟨rfl, Nat.zero_le _, _, _, rfl⟩
  · intro i y hy K σ M'' ⟨eM, hi, o2, o3, eσ⟩ hK
    subst eM eσ
    rw [pairD_at, Nat.zero_add] at hy
    obtain ⟨x, hx0, rfl⟩ := Option.map_eq_some_iff.mp hy
    by_cases hij : i = j
    · subst hij
      rw [hj] at hx0
      cases hx0
      generalize hd : dj = d0 at *
      walk_at "w"
      refine ⟨_, ht, ?_⟩
      refine bT (by rw [hs]; rfl) ?_
      walk_at "w"
      exact ⟨_, .refl, e⟩
    · have hlt : i < j := by omega
      rw [ha i hlt] at hx0
      cases hx0
      walk_at "w"
      exact hK _ _ ⟨rfl, hlt, _, _, rfl⟩
  intro σ M'' ⟨eM, hi, _⟩
  rw [pairD_len] at hi
  have := (List.getElem?_eq_some_iff.mp hj).1
  omega
/-- all are rows -/
theorem ct_toldr {k m : Nat} (hk : k ≤ 2) (hm : m ≤ 60) (q : Q (.tup [conD k, .tup (List.replicate m (.str (cnt k)))]) M) : (L w).cl (n + 10) ("told_all", none) [conD k, .tup (List.replicate m (.str "rows"))] M Q E := by
  rw [Law.stp T_told_all]
  generalize hcon : conD k = con at *
  have hlen : (List.replicate m (D.str "rows")).length = m := List.length_replicate
  have hat : ∀ i x, (List.replicate m (D.str "rows"))[i]? = some x → x = D.str "rows" := fun i x (h : (List.replicate m (D.str "rows"))[i]? = some x) => List.eq_of_mem_replicate (List.mem_of_getElem? h)
  generalize List.replicate m (D.str "rows") = xs at *
  walk_at "w"
  refine ⟨_, g_lines, ?_⟩
  walk_at "w"
  refine bF (decide_eq_false (by omega)) ?_
  walk_at "w"
  refine fo_all (fun i σ M'' => M'' = M ∧ ∃ o2 o3 : Option D, σ = [some con, some (.tup xs), o2, o3, none, none]) (fun _ _ _ _ => trivial) ?_ ?_ ⟨rfl, _, _, rfl⟩
  · intro i y hy K σ M'' ⟨eM, o2, o3, eσ⟩ hK
    subst eM eσ
    rw [pairD_at, Nat.zero_add] at hy
    obtain ⟨x, hx0, rfl⟩ := Option.map_eq_some_iff.mp hy
    obtain rfl := hat _ _ hx0
    walk_at "w"
    exact hK _ _ ⟨rfl, _, _, rfl⟩
  intro σ M'' ⟨eM, o2, o3, eσ⟩
  subst eσ
  rw [eM]
  walk_at "w"
  intro f hf
  walk_at "w"
  refine fo_all (fun i σ M'' => M'' = up M f (.lst (List.replicate i (.str (cnt k)))) ∧ ∃ o3 o5 : Option D, σ = [some con, some (.tup xs), o2, o3, some (.ref f), o5]) (fun _ _ _ _ => trivial) ?_ ?_ ⟨rfl, _, _, rfl⟩
  · intro i y hy K σ M'' ⟨eM, o3, o5, eσ⟩ hK
    subst eM eσ
    have hi := (List.getElem?_eq_some_iff.mp hy).1
    obtain rfl := hat _ _ hy
    walk_at "w"
    rw [← hcon]
    refine ct_byr hk ?_
    rw [hcon]
    walk_at "w"
    refine ⟨⟨_, lsOf_ref up_same⟩, ?_⟩
    walk_at "w"
    refine ⟨_, _, rfl, up_same, ?_, ?_⟩
    · rw [List.length_replicate, sizeLine_eq]
      omega
    rw [up_up, ← List.replicate_succ']
    walk_at "w"
    exact hK _ _ ⟨rfl, _, _, rfl⟩
  intro σ M'' ⟨eM, o3, o5, eσ⟩
  subst eM eσ
  rw [hlen]
  walk_at "w"
  refine ⟨_, lsOf_ref up_same, ?_⟩
  walk_at "w"
  exact ⟨M, sub_up hf, q⟩
end
end RX.Lawk55
set_option Elab.async false
set_option linter.all false
set_option pp.deepTerms false
set_option pp.deepTerms.threshold 8
set_option maxRecDepth 1000000
set_option maxHeartbeats 4000000
/-! K55i: what is heard; facts of data. -/
namespace RX.Lawk55
open PySem PySem.Spec PyProof.Rows L2 RX
local macro_rules | `(tactic| walk_at "w") => `(tactic| ((conv => whnf); repeat ((first | refine bT rfl ?_ | refine bF rfl ?_ | refine ⟨_, rfl, ?_⟩ | refine ⟨_, _, rfl, rfl, ?_⟩ | refine ⟨_, _, rfl, ?_⟩ | refine ⟨rfl, ?_⟩ | refine szA rfl ?_ | refine ⟨by decide, ?_⟩); (conv => whnf))))
/-! ### statements in two parts -/
def tkS : Nat → CSs → CSs
  | 0, _ => .nil
  | _ + 1, .nil => .nil
  | k + 1, .cons s ss => .cons s (tkS k ss)
def dpS : Nat → CSs → CSs
  | 0, ss => ss
  | _ + 1, .nil => .nil
  | k + 1, .cons _ ss => dpS k ss
theorem cutS {Γ : Gam} {E : ED} {D : DEnds} : ∀ (k : Nat) (ss : CSs), wpSs Γ E ss D = wpSs Γ E (tkS k ss) { D with nx := wpSs Γ E (dpS k ss) D }
  | 0, ss => by
    funext σ M
    unfold tkS dpS
    rfl
  | _ + 1, .nil => by
    funext σ M
    unfold tkS dpS wpSs
    rfl
  | k + 1, .cons s ss => by
    funext σ M
    have ih := cutS (Γ := Γ) (E := E) (D := D) k ss
    show wpSs Γ E (.cons s ss) D σ M = wpSs Γ E (.cons s (tkS k ss)) { D with nx := wpSs Γ E (dpS k ss) D } σ M
    conv => lhs; unfold wpSs
    conv => rhs; unfold wpSs
    show wpS Γ E s { D with nx := wpSs Γ E ss D } σ M = wpS Γ E s { D with nx := wpSs Γ E (tkS k ss) { D with nx := wpSs Γ E (dpS k ss) D } } σ M
    rw [ih]
/-- the first k statements, then the others -/
theorem sqk {Γ : Gam} {E : ED} {D : DEnds} {ss : CSs} {σ : DSt} {M : MM} (k : Nat) (J : DSt → MM → Prop) (h : ∀ r : DSt → MM → Prop, (∀ σ' M', J σ' M' → r σ' M') → wpSs Γ E (tkS k ss) { D with nx := r } σ M)
    (t : ∀ σ' M', J σ' M' → wpSs Γ E (dpS k ss) D σ' M') : wpSs Γ E ss D σ M := by
  rw [cutS k ss]
  exact h _ t
theorem callk55 {L : Law} {n : Nat} {f : Str} {ps ks : List Str} {ds es args : List D} {M : MM} {Q : DV} {E : XD} (hp : L.px f = ps) (h1 : ds.length + es.length = ps.length ∧ es.length = ks.length) (ha : kwArr ps ds ks es = args) (h : L.cl n (f, none) args M Q E) :
    (ds.length + es.length = (L.px f).length ∧ es.length = ks.length) ∧ L.cl n (f, none) (kwArr (L.px f) ds ks es) M Q E := by
  rw [hp, ha]
  exact ⟨h1, h⟩
/-! ### data -/
mutual
def okP : PyData → Bool
  | .none => true
  | .bool _ => true
  | .int _ => true
  | .str _ => true
  | .tuple ps => okPs ps
  | .list ps => okPs ps
  | .dict [] => true
  | _ => false
def okPs : List PyData → Bool
  | [] => true
  | p :: ps => okP p && okPs ps
end
mutual
theorem vs_p {M : MM} : ∀ {p : PyData}, okP p = true → Vs M (pD p) p
  | .none, _ => by unfold pD; exact .non
  | .bool b, _ => by unfold pD; exact .bl b
  | .int i, _ => by unfold pD; exact .int i
  | .str x, _ => by unfold pD; exact .str x
  | .tuple ps, h => by unfold pD; exact .tup (vs_ps (by unfold okP at h; exact h))
  | .list ps, h => by unfold pD; exact .lst (vs_ps (by unfold okP at h; exact h))
  | .dict [], _ => by unfold pD; exact .dct0
  | .dict (_ :: _), h => by unfold okP at h; cases h
theorem vs_ps {M : MM} : ∀ {ps : List PyData}, okPs ps = true → VsL M (pDs ps) ps
  | [], _ => by unfold pDs; exact .nil
  | p :: ps, h => by
    unfold okPs at h
    rw [Bool.and_eq_true] at h
    unfold pDs
    exact .cons (vs_p h.1) (vs_ps h.2)
end
def tyP : PyData → String
  | .none => "NoneType"
  | .bool _ => "bool"
  | .int _ => "int"
  | .str _ => "str"
  | .tuple _ => "tuple"
  | .list _ => "list"
  | _ => "dict"
theorem ty_pD {M : MM} : ∀ {p : PyData}, okP p = true → tyOf M (pD p) = some (.bt (tyP p))
  | .none, _ => by unfold pD; rfl
  | .bool b, _ => by unfold pD; rfl
  | .int i, _ => by unfold pD; rfl
  | .str x, _ => by unfold pD; rfl
  | .tuple ps, h => by unfold pD; rfl
  | .list ps, h => by unfold pD; rfl
  | .dict [], _ => by unfold pD; rfl
  | .dict (_ :: _), h => by unfold okP at h; cases h
def odd8 : List PyData := [.none, .int 0, .bool true, .tuple [.str "rows"], .list [.str "rows"], .dict [], .int (10 ^ 30), .tuple []]
theorem odds_ok : odds.all okP = true := by decide +kernel
theorem odd8_ok : (odd8.all fun p => okP p && !([Ty.bt "str"].any (isTy (.bt (tyP p))))) = true := by decide +kernel
/-- what is heard of a refusal -/
abbrev lX (z : Str) : D := .lst [.str "lines", .str z]
abbrev lN : D := lX "None"
theorem heardX {Q : DV} {M : MM} {σ : DSt} {x : D} {p : PyData} (hv : Vw M x p) (hs : PyData.showable p = true) (hd : p.depth ≤ 64) (hl : p.shown.length ≤ sizeLine) (q : Q (lX p.shown) M) : hdE2 hd_law_heard Q "InvalidLines" ["index"] [x] σ M := by
  refine ⟨by decide, _, _, rfl, rfl, ?_⟩
  walk_at "w"
  refine ⟨p, hv, hs, hd, hl, ?_⟩
  walk_at "w"
  exact q
theorem heardN {Q : DV} {M : MM} {σ : DSt} (q : Q lN M) : ∃ M'', Sub M'' M ∧ hdE2 hd_law_heard Q "InvalidLines" ["index"] [.non] σ M'' := ⟨M, .refl, heardX .non (by decide +kernel) (by decide +kernel) (by decide +kernel) q⟩
def shI (j : Nat) : Str := (PyData.int (j : Int)).shown
theorem shI_ok : ∀ j < 63, PyData.showable (.int (j : Nat)) = true ∧ (PyData.int (j : Nat)).depth ≤ 64 ∧ (PyData.int (j : Nat)).shown.length ≤ sizeLine ∧ (toString ((j : Nat) : Int) : Str) = (PyData.int (j : Nat)).shown := by decide +kernel
theorem heardI {Q : DV} {M : MM} {σ : DSt} {j : Nat} (hj : j < 63) (q : Q (lX (shI j)) M) : ∃ M'', Sub M'' M ∧ hdE2 hd_law_heard Q "InvalidLines" ["index"] [.int (j : Int)] σ M'' := by
  obtain ⟨h1, h2, h3, _⟩ := shI_ok j hj
  exact ⟨M, .refl, heardX (.int _) h1 h2 h3 q⟩
/-! ### equal -/
def pX (z : Str) : PyData := .list [.str "lines", .str z]
theorem vwX {M : MM} {z : Str} : Vw M (lX z) (pX z) := .lst (.cons (.str _) (.cons (.str _) .nil))
theorem eqvX (z : Str) : PyData.eqv (pX z) (pX z) = true := by
  unfold pX
  simp [PyData.eqv, PyData.eqvAll]
theorem eqvXX (z : Str) : PyData.eqv (.list [pX z, pX z]) (.list [pX z, pX z]) = true := by
  unfold pX
  simp [PyData.eqv, PyData.eqvAll]
theorem shX {z : Str} (h : PyData.strOk z = true) : SeqAt.shaped (pX z) = true ∧ SeqAt.shaped (.list [pX z, pX z]) = true := by
  have hl : PyData.strOk "lines" = true := by decide +kernel
  unfold pX SeqAt.shaped
  constructor <;> simp [PyData.canLay0, PyData.canLayAll0, PyData.depth, PyData.depthAll, h, hl]
theorem eqX {M : MM} {z : Str} (h : PyData.strOk z = true) : EqR M (lX z) (lX z) true := by
  have e := EqR.dat (M := M) (vwX (z := z)) vwX (shX h).1 (shX h).1
  rwa [eqvX] at e
theorem eqXX {M : MM} {z : Str} (h : PyData.strOk z = true) : EqR M (.lst [lX z, lX z]) (.lst [lX z, lX z]) true := by
  have e := EqR.dat (M := M) (Vw.lst (.cons (vwX (z := z)) (.cons vwX .nil))) (Vw.lst (.cons (vwX (z := z)) (.cons vwX .nil))) (shX h).2 (shX h).2
  rwa [eqvXX] at e
theorem okN : PyData.strOk "None" = true := by decide +kernel
theorem okI : ∀ j < 63, PyData.strOk (shI j) = true := by decide +kernel
/-! ### what is told -/
def pR (m k : Nat) : PyData := .list [.str "told", .tuple [.tuple [.str (textOf k), .tuple ((early k).map .str)], .tuple (List.replicate m (.str (cnt k)))]]
def mL : List Nat := [0, 1, 5, 58, 59, 60]
def fitR (m k : Nat) : Bool := PyData.showable (.list [pR m k, pR m k]) && decide ((PyData.list [pR m k, pR m k]).depth ≤ 64) && (PyData.list [pR m k, pR m k]).leavesShort 13 && decide ((PyData.list [pR m k, pR m k]).weight ≤ 1048576)
theorem fit0 : (mL.all fun m => fitR m 0) = true := by decide +kernel
theorem fit1 : (mL.all fun m => fitR m 1) = true := by decide +kernel
theorem fit2 : (mL.all fun m => fitR m 2) = true := by decide +kernel
theorem ok0 : (mL.all fun m => okP (.list [pR m 0, pR m 0])) = true := by decide +kernel
theorem ok1 : (mL.all fun m => okP (.list [pR m 1, pR m 1])) = true := by decide +kernel
theorem ok2 : (mL.all fun m => okP (.list [pR m 2, pR m 2])) = true := by decide +kernel
theorem pDs_rep (p : PyData) : ∀ m, pDs (List.replicate m p) = List.replicate m (pD p)
  | 0 => rfl
  | m + 1 => by
    rw [List.replicate_succ, List.replicate_succ, pDs, pDs_rep p m]
theorem pDs_str : ∀ l : List Str, pDs (l.map PyData.str) = l.map D.str
  | [] => rfl
  | z :: l => by
    rw [List.map_cons, List.map_cons, pDs, pDs_str l]
    rfl
abbrev tR (m k : Nat) : D := .lst [.str "told", .tup [conD k, .tup (List.replicate m (.str (cnt k)))]]
theorem pD_R (m k : Nat) : pD (.list [pR m k, pR m k]) = .lst [tR m k, tR m k] := by
  have e : pD (pR m k) = tR m k := by
    unfold pR tR conD
    simp only [pD, pDs, pDs_rep, pDs_str]
  simp only [pD, pDs, e]
theorem repr_R {m k : Nat} (hm : m ∈ mL) (hk : k ≤ 2) : ∃ p, (∀ M, Vs M (.lst [tR m k, tR m k]) p) ∧ PyData.showable p = true ∧ p.depth ≤ 64 ∧ p.shown.length ≤ sizeLine := by
  have h : fitR m k = true ∧ okP (.list [pR m k, pR m k]) = true := by
    match k, hk with
    | 0, _ => exact ⟨List.all_eq_true.mp fit0 m hm, List.all_eq_true.mp ok0 m hm⟩
    | 1, _ => exact ⟨List.all_eq_true.mp fit1 m hm, List.all_eq_true.mp ok1 m hm⟩
    | 2, _ => exact ⟨List.all_eq_true.mp fit2 m hm, List.all_eq_true.mp ok2 m hm⟩
  obtain ⟨h, ho⟩ := h
  unfold fitR at h
  simp only [Bool.and_eq_true, decide_eq_true_eq] at h
  refine ⟨.list [pR m k, pR m k], fun M => ?_, h.1.1.1, h.1.1.2, PyData.shown_fits (B := 13) (by decide) (by decide) h.1.2 (Nat.le_trans h.2 (by decide))⟩
  rw [← pD_R]
  exact vs_p ho
end RX.Lawk55
set_option Elab.async false
set_option linter.all false
set_option pp.deepTerms false
set_option pp.deepTerms.threshold 8
set_option maxRecDepth 1000000
set_option maxHeartbeats 4000000
/-! K55j: a turn, its first half. -/
namespace RX.Lawk55
open PySem PySem.Spec PyProof.Rows L2 RX
local macro_rules | `(tactic| walk_at "w") => `(tactic| ((conv => whnf); repeat ((first | refine bT rfl ?_ | refine bF rfl ?_ | refine ⟨_, rfl, ?_⟩ | refine ⟨_, _, rfl, rfl, ?_⟩ | refine ⟨_, _, rfl, ?_⟩ | refine ⟨rfl, ?_⟩ | refine szA rfl ?_ | refine ⟨by decide, ?_⟩); (conv => whnf))))
variable {w : World}
def lawR : Str := "_law_right"
structure Fx (M : MM) (wa P : Addr) : Prop where
  h : ∃ a b c, M wa = some (wl a b c)
  p : M P = some (.tbl lawR)
theorem Fx.ne {M : MM} {wa P : Addr} (f : Fx M wa P) : P ≠ wa := fun e => by
  obtain ⟨a, b, c, h⟩ := f.h
  have p := f.p
  rw [e, h] at p
  cases p
theorem Fx.put {M : MM} {wa P r : Addr} {o : DO} (f : Fx M wa P) (h : M r = none) : Fx (up M r o) wa P := by
  obtain ⟨a, b, c, h1⟩ := f.h
  exact ⟨⟨a, b, c, by rw [up_ne (fun e => by rw [e, h] at h1; cases h1)]; exact h1⟩, by rw [up_ne (fun e => by have p := f.p; rw [e, h] at p; cases p)]; exact f.p⟩
theorem Fx.wl {M : MM} {wa P : Addr} {a b c : Int} (f : Fx M wa P) : Fx (up M wa (wl a b c)) wa P := ⟨⟨a, b, c, up_same⟩, by rw [up_ne f.ne]; exact f.p⟩
theorem Fx.lst {M : MM} {wa P r : Addr} {xs : List D} {o : DO} (f : Fx M wa P) (h : M r = some (.lst xs)) (hr : r ≠ wa) : Fx (up M r o) wa P := by
  obtain ⟨a, b, c, h1⟩ := f.h
  exact ⟨⟨a, b, c, by rw [up_ne (Ne.symm hr)]; exact h1⟩, by rw [up_ne (fun e => by have p := f.p; rw [e, h] at p; cases p)]; exact f.p⟩
abbrev G (w : World) (n : Nat) : Gam := ⟨(L w).px, (L w).hx, fun x => (L w).cl n (x, none), fun C m => (L w).cl n (C, some m), fun C => (L w).ini n (C, some "__init__"), (L w).gx, (L w).fx, (L w).wx⟩
def turnS : CSs := match f_law_right.body with
  | .cons _ (.cons _ (.cons (.for_ _ _ b) _)) => b
  | _ => .nil
theorem px_said : (L w).px "said" = (["console", "line"] : List Str) := px_of (by kernel_rfl)
theorem px_told : (L w).px "told_all" = (["console", "lines"] : List Str) := px_of (by kernel_rfl)
section
variable {n k : Nat} {wa P : Addr} {M : MM} {E : ED} {D0 : DEnds} {con : D} {o2 o3 o4 o5 o6 o7 o8 o9 o10 o11 : Option D}
/-- a thing that may be no text -/
theorem turn_a (f : Fx M wa P) {r : DSt → MM → Prop} (hr : ∀ M' o4 o9, Fx M' wa P → r [some (.ref wa), some con, o2, o3, o4, o5, o6, o7, o8, o9, o10, o11] M') : wpSs (G w (n + 11)) E (tkS 2 turnS) { D0 with nx := r } [some (.ref wa), some con, o2, o3, o4, o5, o6, o7, o8, o9, o10, o11] M := by
  obtain ⟨a, b, c, h⟩ := f.h
  walk_at "w"
  refine ct_odd h fun p hp a' b' c' => ?_
  have ho : okP p = true := List.all_eq_true.mp odds_ok p hp
  have f1 : Fx (up M wa (wl a' b' c')) wa P := f.wl
  generalize up M wa (wl a' b' c') = M1 at *
  have ht : tyOf M1 (pD p) = some (.bt (tyP p)) := ty_pD ho
  generalize pD p = x at *
  generalize tyP p = ty at *
  walk_at "w"
  refine ⟨_, ht, ?_⟩
  refine Bif_of (fun hh => ?_) (fun hh => ?_)
  · have hs : ([Ty.bt "str"].any (isTy (.bt ty))) = false := by
      cases e : [Ty.bt "str"].any (isTy (.bt ty)) with
      | false => rfl
      | true => rw [e] at hh; cases hh
    walk_at "w"
    refine ⟨⟨P, f1.p⟩, ?_⟩
    walk_at "w"
    refine ct_saidx ht hs (heardN ?_)
    walk_at "w"
    refine ⟨⟨P, f1.p⟩, ?_⟩
    walk_at "w"
    refine callk55 (args := [con, x]) px_said ⟨rfl, rfl⟩ (by rfl) ?_
    refine ct_saidx ht hs (heardN ?_)
    walk_at "w"
    intro r0 hr0
    walk_at "w"
    refine ⟨_, up_same, by decide, by decide, of_decide_eq_true rfl, ?_⟩
    walk_at "w"
    refine ⟨true, eqXX okN, ?_⟩
    walk_at "w"
    exact hr _ _ _ (f1.put hr0)
  · walk_at "w"
    exact hr _ _ _ f1
def rowD : D := .str "rows"
/-- lines, with such that are none; where -/
def Ln (m : Nat) (xs : List D) (ws : List Int) : Prop := xs.length = m ∧ (∀ z ∈ ws, ∃ j : Nat, j < m ∧ z = (j : Int)) ∧ ∀ j < m, ((j : Int) ∉ ws ∧ xs[j]? = some rowD) ∨ ((j : Int) ∈ ws ∧ ∃ p ∈ odd8, xs[j]? = some (pD p))
theorem ln_new (m : Nat) : Ln m (List.replicate m rowD) [] := ⟨List.length_replicate, (fun _ h => nomatch h), fun j hj => .inl ⟨List.not_mem_nil, by rw [List.getElem?_replicate, if_pos hj]⟩⟩
theorem ln_set {m : Nat} {xs : List D} {ws : List Int} {j : Nat} {p : PyData} (h : Ln m xs ws) (hj : j < m) (hp : p ∈ odd8) : Ln m (xs.set j (pD p)) (ws ++ [(j : Int)]) := by
  obtain ⟨h1, h2, h3⟩ := h
  refine ⟨by rw [List.length_set, h1], fun z hz => ?_, fun i hi => ?_⟩
  · rcases List.mem_append.mp hz with hz | hz
    · exact h2 z hz
    · exact ⟨j, hj, List.mem_singleton.mp hz⟩
  · by_cases e : i = j
    · subst e
      exact .inr ⟨by simp, p, hp, by rw [List.getElem?_set_self (by omega)]⟩
    · rw [List.getElem?_set_ne (fun z => e z.symm)]
      rcases h3 i hi with ⟨a, b⟩ | ⟨a, b⟩
      · refine .inl ⟨fun z => ?_, b⟩
        rcases List.mem_append.mp z with z | z
        · exact a z
        · have := List.mem_singleton.mp z
          omega
      · exact .inr ⟨List.mem_append_left _ a, b⟩
def mI : List Nat := [0, 1, 5, 58, 59, 60, 61, 62]
theorem rngI_mem : ∀ (n : Nat) (lo : Int) (i : Nat) (x : D), (rngD lo n)[i]? = some x → x = .int (lo + i) ∧ i < n
  | 0, _, _, _, h => by cases h
  | n + 1, lo, 0, x, h => by
    cases h
    exact ⟨by simp, by omega⟩
  | n + 1, lo, i + 1, x, h => by
    obtain ⟨e1, e2⟩ := rngI_mem n (lo + 1) i x h
    exact ⟨by rw [e1]; congr 1; push_cast; omega, by omega⟩
/-- what stands behind the lines' making -/
def JB (wa P : Addr) (con : D) (σ : DSt) (M' : MM) : Prop := Fx M' wa P ∧ ∃ (m : Nat) (l wr : Addr) (xs : List D) (ws : List Int) (o2 o3 o4 o7 o8 o9 o10 o11 : Option D), σ = [some (.ref wa), some con, o2, o3, o4, some (.ref l), some (.ref wr), o7, o8, o9, o10, o11] ∧ m ∈ mI ∧ M' l = some (.lst xs) ∧ M' wr = some (.lst (ws.map .int)) ∧ l ≠ wr ∧ Ln m xs ws
theorem turn_b1 {m : Nat} {l wr : Addr} {d : Int} (f : Fx M wa P) (hm : m ∈ mI) (hl : M l = some (.lst (List.replicate m rowD))) (hw : M wr = some (.lst [])) (hlw : l ≠ wr) (d0 : 0 ≤ d) (d3 : d < 3) (hd : m = 0 → d = 0) {r : DSt → MM → Prop} (hr : ∀ σ' M', JB wa P con σ' M' → r σ' M') {b : CSs}
    (hb : b = (.cons (.asg (.name 10) (.call "_law_draw" (.cons (.var 0) (.cons (.fn .len true (.cons (.var 5) .nil)) .nil)))) (.cons (.asg (.sub (.var 5) (.var 10)) (.call "_law_one" (.cons (.var 0) (.cons (.tup (.cons .non (.cons (.int 0) (.cons (.bl true) (.cons (.tup (.cons (.str "rows") .nil)) (.cons (.lst true (.cons (.str "rows") .nil)) (.cons (.dct true .nil .nil) (.cons (.bin .Pow true (.int 10) (.int 30)) (.cons (.tup .nil) .nil))))))))) .nil)))) (.cons (.expr (.bm .append (.var 6) (.cons (.var 10) .nil))) .nil)))) :
    forD (fun _ => True) (wpG (G w (n + 11)) E (.name 7)) (wpSs (G w (n + 11)) E b) { D0 with nx := r } (rngD 0 d.toNat) [some (.ref wa), some con, o2, o3, o4, some (.ref l), some (.ref wr), o7, o8, o9, o10, o11] M := by
  have hwl : ∀ {M' : MM}, Fx M' wa P → (∃ xs, M' l = some (.lst xs) ∧ l ≠ wa) → True := fun _ _ => trivial
  have m62 : m ≤ 62 := by
    have : ∀ m ∈ mI, m ≤ 62 := by decide
    exact this m hm
  have lwa : l ≠ wa := fun e => by
    obtain ⟨a, b, c, h⟩ := f.h
    rw [e, h] at hl
    have z : [D.int a, .int b, .int c] = List.replicate m rowD := by
      injection hl with hl
      injection hl
    have z2 : D.int a ∈ List.replicate m rowD := by rw [← z]; exact List.mem_cons_self ..
    have := List.eq_of_mem_replicate z2
    cases this
  have wwa : wr ≠ wa := fun e => by
    obtain ⟨a, b, c, h⟩ := f.h
    rw [e, h] at hw
    cases hw
  refine fo_all (fun i σ M' => Fx M' wa P ∧ ∃ (xs : List D) (ws : List Int) (o7 o10 : Option D), σ = [some (.ref wa), some con, o2, o3, o4, some (.ref l), some (.ref wr), o7, o8, o9, o10, o11] ∧ M' l = some (.lst xs) ∧ M' wr = some (.lst (ws.map .int)) ∧ Ln m xs ws ∧ ws.length = i) (fun _ _ _ _ => trivial) ?_ ?_ ⟨f, _, [], _, _, rfl, hl, hw, ln_new m, rfl⟩
  · intro i x hx K σ M' ⟨f', xs, ws, p7, p10, eσ, h1, h2, hL, hwl⟩ hK
    obtain ⟨rfl, hi⟩ := rngI_mem _ _ _ _ hx
    have mpos : 0 < m := by
      rcases Nat.eq_zero_or_pos m with e | e
      · have := hd e
        omega
      · exact e
    subst eσ hb
    obtain ⟨a, b, c, h⟩ := f'.h
    walk_at "w"
    refine .inl ⟨_, lsOf_ref h1, ?_⟩
    rw [hL.1]
    walk_at "w"
    refine ct_draw h (by omega) (by omega) fun t a' b' c' t0 t1 => ?_
    have f2 : Fx (up M' wa (wl a' b' c')) wa P := f'.wl
    have h1' : (up M' wa (wl a' b' c')) l = some (.lst xs) := by rw [up_ne lwa]; exact h1
    have h2' : (up M' wa (wl a' b' c')) wr = some (.lst (ws.map .int)) := by rw [up_ne wwa]; exact h2
    generalize up M' wa (wl a' b' c') = M2 at *
    obtain ⟨a2, b2, c2, h3⟩ := f2.h
    walk_at "w"
    refine ⟨⟨by decide, by decide⟩, ?_⟩
    walk_at "w"
    refine ct_one (ds := odd8.map pD) h3 (by decide) (by decide) fun dd hdd a3 b3 c3 => ?_
    obtain ⟨p, hp, rfl⟩ := List.mem_map.mp hdd
    have f3 : Fx (up M2 wa (wl a3 b3 c3)) wa P := f2.wl
    have h1'' : (up M2 wa (wl a3 b3 c3)) l = some (.lst xs) := by rw [up_ne lwa]; exact h1'
    have h2'' : (up M2 wa (wl a3 b3 c3)) wr = some (.lst (ws.map .int)) := by rw [up_ne wwa]; exact h2'
    generalize up M2 wa (wl a3 b3 c3) = M3 at *
    have ht : t.toNat < m := by omega
    have eT : ((t.toNat : Nat) : Int) = t := Int.toNat_of_nonneg t0
    generalize hx2 : pD p = x2 at *
    walk_at "w"
    refine ⟨xs, t.toNat, h1'', ?_, ?_⟩
    · unfold ixN
      rw [if_pos t0, if_pos (by rw [hL.1]; omega)]
    have f4 : Fx (up M3 l (.lst (xs.set t.toNat x2))) wa P := f3.lst h1'' lwa
    have h5 : (up M3 l (.lst (xs.set t.toNat x2))) l = some (.lst (xs.set t.toNat x2)) := up_same
    have h6 : (up M3 l (.lst (xs.set t.toNat x2))) wr = some (.lst (ws.map .int)) := by rw [up_ne (Ne.symm hlw)]; exact h2''
    generalize up M3 l (.lst (xs.set t.toNat x2)) = M4 at *
    walk_at "w"
    refine ⟨⟨_, lsOf_ref h6⟩, ?_⟩
    walk_at "w"
    have wl3 : ws.length < 3 := by omega
    refine ⟨_, _, rfl, h6, by rw [List.length_map, sizeLine_eq]; omega, ?_⟩
    walk_at "w"
    refine hK _ _ ⟨f4.lst h6 wwa, xs.set t.toNat x2, ws ++ [t], _, _, rfl, ?_, ?_, ?_, ?_⟩
    · rw [up_ne hlw]
      exact h5
    · rw [up_same, List.map_append]
      rfl
    · have := ln_set hL ht hp
      rw [hx2, eT] at this
      exact this
    · rw [List.length_append, hwl]
      rfl
  · intro σ M' ⟨f', xs, ws, p7, p10, eσ, h1, h2, hL, _⟩
    exact hr _ _ ⟨f', m, l, wr, xs, ws, _, _, _, _, _, _, _, _, eσ, hm, h1, h2, hlw, hL⟩
end
end RX.Lawk55
set_option Elab.async false
set_option linter.all false
set_option pp.deepTerms false
set_option pp.deepTerms.threshold 8
set_option maxRecDepth 1000000
set_option maxHeartbeats 4000000
/-! K55k: a turn, its second half. -/
namespace RX.Lawk55
open PySem PySem.Spec PyProof.Rows L2 RX
local macro_rules | `(tactic| walk_at "w") => `(tactic| ((conv => whnf); repeat ((first | refine bT rfl ?_ | refine bF rfl ?_ | refine ⟨_, rfl, ?_⟩ | refine ⟨_, _, rfl, rfl, ?_⟩ | refine ⟨_, _, rfl, ?_⟩ | refine ⟨rfl, ?_⟩ | refine szA rfl ?_ | refine ⟨by decide, ?_⟩); (conv => whnf))))
variable {w : World}
theorem flat1 (x : D) : ∀ n : Nat, (List.replicate n [x]).flatten = List.replicate n x
  | 0 => rfl
  | n + 1 => by
    rw [List.replicate_succ, List.flatten_cons, flat1 x n]
    rfl
section
variable {n k : Nat} {wa P : Addr} {M : MM} {E : ED} {D0 : DEnds} {con : D} {o2 o3 o4 o5 o6 o7 o8 o9 o10 o11 : Option D}
theorem turn_b (f : Fx M wa P) {r : DSt → MM → Prop} (hr : ∀ σ' M', JB wa P con σ' M' → r σ' M') : wpSs (G w (n + 11)) E (tkS 3 (dpS 2 turnS)) { D0 with nx := r } [some (.ref wa), some con, o2, o3, o4, o5, o6, o7, o8, o9, o10, o11] M := by
  walk_at "w"
  intro l0 hl0
  have f1 : Fx (up M l0 (.lst [rowD])) wa P := f.put hl0
  have g1 : (up M l0 (.lst [rowD])) l0 = some (.lst [rowD]) := up_same
  change wpE _ _ _ _ (up M l0 (.lst [rowD])) _
  generalize up M l0 (.lst [rowD]) = M1 at *
  obtain ⟨a, b, c, h⟩ := f1.h
  walk_at "w"
  refine ct_one (ds := mI.map fun (m : Nat) => D.int (m : Int)) h (by decide) (by decide) fun dd hdd a3 b3 c3 => ?_
  obtain ⟨m, hm, rfl⟩ := List.mem_map.mp hdd
  have m62 : m ≤ 62 := by
    have : ∀ m ∈ mI, m ≤ 62 := by decide
    exact this m hm
  have lwa : l0 ≠ wa := fun e => by
    rw [e, h] at g1
    cases g1
  have f2 : Fx (up M1 wa (wl a3 b3 c3)) wa P := f1.wl
  have g2 : (up M1 wa (wl a3 b3 c3)) l0 = some (.lst [rowD]) := by rw [up_ne lwa]; exact g1
  generalize up M1 wa (wl a3 b3 c3) = M2 at *
  walk_at "w"
  refine ⟨_, g2, by omega, by omega, of_decide_eq_true rfl, ?_⟩
  rw [show ((m : Int)).toNat = m from Int.toNat_natCast m, flat1]
  intro l hl
  have f3 : Fx (up M2 l (.lst (List.replicate m rowD))) wa P := f2.put hl
  have g3 : (up M2 l (.lst (List.replicate m rowD))) l = some (.lst (List.replicate m rowD)) := up_same
  generalize up M2 l (.lst (List.replicate m rowD)) = M3 at *
  walk_at "w"
  intro wr hwr
  have f4 : Fx (up M3 wr (.lst [])) wa P := f3.put hwr
  have hlw : l ≠ wr := fun e => by rw [e, hwr] at g3; cases g3
  have g4 : (up M3 wr (.lst [])) l = some (.lst (List.replicate m rowD)) := by rw [up_ne hlw]; exact g3
  have g5 : (up M3 wr (.lst [])) wr = some (.lst []) := up_same
  generalize up M3 wr (.lst []) = M4 at *
  obtain ⟨a4, b4, c4, h4⟩ := f4.h
  rcases Nat.eq_zero_or_pos m with e | e
  · subst e
    walk_at "w"
    refine ⟨true, EqR.dat (Vw.ref g4 .nil) (.lst .nil) (by decide +kernel) (by decide +kernel), ?_⟩
    refine bF rfl ?_
    exact ⟨0, rfl, by decide, by decide, turn_b1 (d := 0) f4 hm g4 g5 hlw (by decide) (by decide) (fun _ => rfl) hr rfl⟩
  · walk_at "w"
    refine ⟨false, .len (lsOf_ref g4) rfl (by rw [List.length_replicate]; show m ≠ 0; omega), ?_⟩
    refine bT rfl ?_
    walk_at "w"
    refine ct_draw h4 (by decide) (by decide) fun d a' b' c' d0 d1 => ?_
    have lwa4 : l ≠ wa := fun e => by
      rw [e, h4] at g4
      have z : [D.int a4, .int b4, .int c4] = List.replicate m rowD := by
        injection g4 with g4
        injection g4
      have z2 : D.int a4 ∈ List.replicate m rowD := by rw [← z]; exact List.mem_cons_self ..
      have := List.eq_of_mem_replicate z2
      cases this
    have wwa : wr ≠ wa := fun e => by
      rw [e, h4] at g5
      cases g5
    refine ⟨d, rfl, by omega, by omega, ?_⟩
    exact turn_b1 (d := d) f4.wl hm (by rw [up_ne lwa4]; exact g4) (by rw [up_ne wwa]; exact g5) hlw d0 d1 (fun z => by omega) hr rfl
/-- what is due -/
def JC (wa P : Addr) (con : D) (σ : DSt) (M' : MM) : Prop := Fx M' wa P ∧ ∃ (m : Nat) (l : Addr) (xs : List D) (due : D) (o2 o3 o4 o6 o7 o9 o10 o11 : Option D), σ = [some (.ref wa), some con, o2, o3, o4, some (.ref l), o6, o7, some due, o9, o10, o11] ∧ m ∈ mI ∧ M' l = some (.lst xs) ∧ xs.length = m ∧
  ((60 < m ∧ due = lN) ∨ (m ≤ 60 ∧ ∃ j p, j < m ∧ p ∈ odd8 ∧ xs[j]? = some (pD p) ∧ (∀ i < j, xs[i]? = some rowD) ∧ due = lX (shI j)) ∨ (m ≤ 60 ∧ xs = List.replicate m rowD ∧ due = .lst [.str "told"]))
theorem log_ok : ∀ j < 63, ((j : Nat) : Int).natAbs.log2 < 1920 := by decide +kernel
theorem turn_c {σ : DSt} (J : JB wa P con σ M) {r : DSt → MM → Prop} (hr : ∀ σ' M', JC wa P con σ' M' → r σ' M') : wpSs (G w (n + 11)) E (tkS 1 (dpS 3 (dpS 2 turnS))) { D0 with nx := r } σ M := by
  obtain ⟨f, m, l, wr, xs, ws, p2, p3, p4, p7, p8, p9, p10, p11, eσ, hm, h1, h2, hlw, hL⟩ := J
  subst eσ
  have m62 : m ≤ 62 := by
    have : ∀ m ∈ mI, m ≤ 62 := by decide
    exact this m hm
  walk_at "w"
  refine .inl ⟨_, lsOf_ref h1, ?_⟩
  rw [hL.1]
  walk_at "w"
  refine Bif_of (fun hh => ?_) (fun hh => ?_)
  · have hh := of_decide_eq_true hh
    walk_at "w"
    exact hr _ _ ⟨f, m, l, xs, _, _, _, _, _, _, _, _, _, rfl, hm, h1, hL.1, .inl ⟨by omega, rfl⟩⟩
  · have hh := of_decide_eq_false hh
    have m60 : m ≤ 60 := by omega
    by_cases he : ws = []
    · subst he
      walk_at "w"
      refine ⟨true, EqR.dat (Vw.ref h2 .nil) (.lst .nil) (by decide +kernel) (by decide +kernel), ?_⟩
      refine bF rfl ?_
      walk_at "w"
      refine hr _ _ ⟨f, m, l, xs, _, _, _, _, _, _, _, _, _, rfl, hm, h1, hL.1, .inr (.inr ⟨m60, ?_, rfl⟩)⟩
      refine List.ext_getElem? fun i => ?_
      rcases Nat.lt_or_ge i m with hi | hi
      · rcases hL.2.2 i hi with ⟨_, e⟩ | ⟨e, _⟩
        · rw [e, List.getElem?_replicate, if_pos hi]
        · cases e
      · rw [List.getElem?_eq_none (by rw [hL.1]; exact hi), List.getElem?_eq_none (by rw [List.length_replicate]; exact hi)]
    · walk_at "w"
      have hlen : 0 < ws.length := List.length_pos_iff.mpr he
      refine ⟨false, .len (lsOf_ref h2) rfl (by rw [List.length_map]; show ws.length ≠ 0; omega), ?_⟩
      refine bT rfl ?_
      walk_at "w"
      refine ⟨ws, lsOf_ref h2, he, fun m0 hm0 hle => ?_⟩
      obtain ⟨j, hj, rfl⟩ := hL.2.1 m0 hm0
      obtain ⟨_, _, _, sh⟩ := shI_ok j (by omega)
      walk_at "w"
      refine ⟨log_ok j (by omega), ?_⟩
      rw [sh]
      walk_at "w"
      rcases hL.2.2 j hj with ⟨e, _⟩ | ⟨_, p, hp, e⟩
      · exact absurd hm0 e
      · refine hr _ _ ⟨f, m, l, xs, _, _, _, _, _, _, _, _, _, rfl, hm, h1, hL.1, .inr (.inl ⟨m60, j, p, hj, hp, e, fun i hi => ?_, rfl⟩)⟩
        rcases hL.2.2 i (by omega) with ⟨_, e⟩ | ⟨e, _⟩
        · exact e
        · have := hle _ e
          omega
end
end RX.Lawk55
set_option Elab.async false
set_option linter.all false
set_option pp.deepTerms false
set_option pp.deepTerms.threshold 8
set_option maxRecDepth 1000000
set_option maxHeartbeats 4000000
/-! K55l: what is told; the law. -/
namespace RX.Lawk55
open PySem PySem.Spec PyProof.Rows L2 RX
local macro_rules | `(tactic| walk_at "w") => `(tactic| ((conv => whnf); repeat ((first | refine bT rfl ?_ | refine bF rfl ?_ | refine ⟨_, rfl, ?_⟩ | refine ⟨_, _, rfl, rfl, ?_⟩ | refine ⟨_, _, rfl, ?_⟩ | refine ⟨rfl, ?_⟩ | refine szA rfl ?_ | refine ⟨by decide, ?_⟩); (conv => whnf))))
variable {w : World}
theorem eqT {M : MM} : EqR M (.lst [.str "told"]) (.lst [.str "told"]) true := by
  have e := EqR.dat (M := M) (Vw.lst (.cons (.str "told") .nil)) (Vw.lst (.cons (.str "told") .nil)) (by decide +kernel) (by decide +kernel)
  rwa [show PyData.eqv (.list [.str "told"]) (.list [.str "told"]) = true by decide +kernel] at e
theorem odd8_ty {M : MM} {p : PyData} (h : p ∈ odd8) : tyOf M (pD p) = some (.bt (tyP p)) ∧ ([Ty.bt "str"].any (isTy (.bt (tyP p)))) = false := by
  have := List.all_eq_true.mp odd8_ok p h
  rw [Bool.and_eq_true, Bool.not_eq_true'] at this
  exact ⟨ty_pD this.1, this.2⟩
section
variable {n k : Nat} {wa P : Addr} {M : MM} {E : ED} {D0 : DEnds}
theorem turn_d (hk : k ≤ 2) {σ : DSt} (J : JC wa P (conD k) σ M) {r : DSt → MM → Prop} (hr : ∀ M' o2 o3 o4 o5 o6 o7 o8 o9 o10 o11, Fx M' wa P → r [some (.ref wa), some (conD k), o2, o3, o4, o5, o6, o7, o8, o9, o10, o11] M') : wpSs (G w (n + 11)) E (dpS 1 (dpS 3 (dpS 2 turnS))) { D0 with nx := r } σ M := by
  obtain ⟨f, m, l, xs, due, p2, p3, p4, p6, p7, p9, p10, p11, eσ, hm, h1, hlen, hc⟩ := J
  subst eσ
  have m62 : m ≤ 62 := by
    have : ∀ m ∈ mI, m ≤ 62 := by decide
    exact this m hm
  -- the last part: the list itself is refused
  have last : ∀ (M' : MM) (q8 q9 q11 : Option D), Fx M' wa P → M' l = some (.lst xs) → wpSs (G w (n + 11)) E (dpS 2 (dpS 1 (dpS 3 (dpS 2 turnS)))) { D0 with nx := r } [some (.ref wa), some (conD k), p2, p3, p4, some (.ref l), p6, p7, q8, q9, p10, q11] M' := by
    intro M' q8 q9 q11 f' h'
    generalize conD k = con at *
    walk_at "w"
    refine ⟨⟨P, f'.p⟩, ?_⟩
    walk_at "w"
    refine ct_toldt (m := "list") (by unfold tyOf; simp only [h']) (by decide) (heardN ?_)
    walk_at "w"
    refine ⟨true, eqX okN, ?_⟩
    refine bF rfl ?_
    exact hr _ _ _ _ _ _ _ _ _ _ _ f'
  rcases hc with ⟨hm60, rfl⟩ | ⟨hm60, j, p, hj, hp, ej, hb, rfl⟩ | ⟨hm60, rfl, rfl⟩
  · refine sqk 2 (fun σ' M' => ∃ q9, σ' = [some (.ref wa), some (conD k), p2, p3, p4, some (.ref l), p6, p7, some lN, q9, p10, p11] ∧ M' = M) (fun r' hr' => ?_) fun σ' M' ⟨q9, e1, e2⟩ => by subst e1 e2; exact last _ _ _ _ f h1
    generalize conD k = con at *
    walk_at "w"
    refine ⟨⟨P, f.p⟩, ?_⟩
    walk_at "w"
    refine ⟨_, lsOf_ref h1, ?_⟩
    walk_at "w"
    refine ct_toldm (by omega) (heardN ?_)
    walk_at "w"
    refine ⟨⟨P, f.p⟩, ?_⟩
    walk_at "w"
    refine ⟨_, lsOf_ref h1, ?_⟩
    walk_at "w"
    refine callk55 (args := [con, .tup xs]) px_told ⟨rfl, rfl⟩ (by rfl) ?_
    refine ct_toldm (by omega) (heardN ?_)
    walk_at "w"
    refine ⟨false, .len rfl rfl (by simp), ?_⟩
    refine bF rfl ?_
    walk_at "w"
    refine ⟨true, eqXX okN, ?_⟩
    refine bF rfl ?_
    exact hr' _ _ ⟨_, rfl, rfl⟩
  · obtain ⟨ht, hs⟩ := odd8_ty (M := M) hp
    have hb' : ∀ i < j, xs[i]? = some (.str "rows") := hb
    refine sqk 2 (fun σ' M' => ∃ q9, σ' = [some (.ref wa), some (conD k), p2, p3, p4, some (.ref l), p6, p7, some (lX (shI j)), q9, p10, p11] ∧ M' = M) (fun r' hr' => ?_) fun σ' M' ⟨q9, e1, e2⟩ => by subst e1 e2; exact last _ _ _ _ f h1
    have hI : PyData.strOk (shI j) = true := okI j (by omega)
    generalize hz : shI j = z at *
    generalize conD k = con at *
    walk_at "w"
    refine ⟨⟨P, f.p⟩, ?_⟩
    walk_at "w"
    refine ⟨_, lsOf_ref h1, ?_⟩
    walk_at "w"
    refine ct_toldi (by omega) ej ht hs hb' (heardI (by omega) ?_)
    rw [hz]
    walk_at "w"
    refine ⟨⟨P, f.p⟩, ?_⟩
    walk_at "w"
    refine ⟨_, lsOf_ref h1, ?_⟩
    walk_at "w"
    refine callk55 (args := [con, .tup xs]) px_told ⟨rfl, rfl⟩ (by rfl) ?_
    refine ct_toldi (by omega) ej ht hs hb' (heardI (by omega) ?_)
    rw [hz]
    walk_at "w"
    refine ⟨false, .len rfl rfl (by simp), ?_⟩
    refine bF rfl ?_
    walk_at "w"
    refine ⟨true, eqXX hI, ?_⟩
    refine bF rfl ?_
    exact hr' _ _ ⟨_, rfl, rfl⟩
  · have hmL : m ∈ mL := by
      have : ∀ m ∈ mI, m ≤ 60 → m ∈ mL := by decide
      exact this m hm hm60
    obtain ⟨pp, hv, hs, hd, hl⟩ := repr_R hmL hk
    refine sqk 2 (fun σ' M' => ∃ q9 q11, σ' = [some (.ref wa), some (conD k), p2, p3, p4, some (.ref l), p6, p7, some (.lst [.str "told"]), q9, p10, q11] ∧ Fx M' wa P ∧ M' l = some (.lst (List.replicate m rowD))) (fun r' hr' => ?_) fun σ' M' ⟨q9, q11, e1, e2, e3⟩ => by subst e1; exact last _ _ _ _ e2 e3
    have hlog : ((rowsL (textOf k)).length : Int).natAbs.log2 < 1920 := by
      match k, hk with
      | 0, _ => decide +kernel
      | 1, _ => decide +kernel
      | 2, _ => decide +kernel
    have htl : (textOf k).length ≤ 1000 := by
      match k, hk with
      | 0, _ => decide
      | 1, _ => decide
      | 2, _ => decide
    generalize hxs : List.replicate m rowD = xs at *
    walk_at "w"
    refine ⟨⟨P, f.p⟩, ?_⟩
    walk_at "w"
    refine ⟨_, lsOf_ref h1, ?_⟩
    rw [← hxs]
    walk_at "w"
    refine ct_toldr hk hm60 ?_
    walk_at "w"
    refine ⟨⟨P, f.p⟩, ?_⟩
    walk_at "w"
    refine ⟨_, lsOf_ref h1, ?_⟩
    rw [← hxs]
    walk_at "w"
    refine callk55 (args := [conD k, .tup (List.replicate m rowD)]) px_told ⟨rfl, rfl⟩ (by rfl) ?_
    refine ct_toldr hk hm60 ?_
    walk_at "w"
    refine ⟨true, eqT, ?_⟩
    refine bT rfl ?_
    -- how many rows
    have many : ∀ (q11 : Option D) (tl : D) (K : DSt → MM → Prop), K [some (.ref wa), some (conD k), p2, p3, p4, some (.ref l), p6, p7, some (.lst [.str "told"]), some tl, p10, some (.str (cnt k))] M → wpS (G w (n + 11)) E (.asg (.name 11) (.ifx (.cmp .NotEq (.ix (.var 1) (.int 0)) (.str "")) (.fn .str true (.cons (.fn .len true (.cons (.bm .split (.ix (.var 1) (.int 0)) (.cons (.str "\n") .nil)) .nil)) .nil)) (.str "0"))) { D0 with nx := K } [some (.ref wa), some (conD k), p2, p3, p4, some (.ref l), p6, p7, some (.lst [.str "told"]), some tl, p10, q11] M := by
      intro q11 tl K hK
      unfold cnt at hK
      unfold rowsL at hK hlog
      unfold conD at hK ⊢
      generalize textOf k = t at *
      generalize (early k).map D.str = er at *
      by_cases e : t = ""
      · rw [if_pos e] at hK
        walk_at "w"
        refine bF (by rw [decide_eq_true e]; rfl) ?_
        walk_at "w"
        exact hK
      · rw [if_neg e] at hK hlog
        walk_at "w"
        refine bT (by rw [decide_eq_false e]; rfl) ?_
        walk_at "w"
        refine ⟨⟨_, rfl⟩, ?_⟩
        walk_at "w"
        refine ⟨by rw [sizeLine_eq]; omega, ?_⟩
        generalize Txt.split t "\n" = sp at *
        walk_at "w"
        rw [List.length_map]
        refine ⟨hlog, ?_⟩
        walk_at "w"
        exact hK
    refine many _ _ _ ?_
    walk_at "w"
    refine ⟨pp, hv _, hs, hd, hl, ?_⟩
    walk_at "w"
    refine .inl ⟨_, lsOf_ref h1, ?_⟩
    rw [hlen]
    walk_at "w"
    refine ⟨by simp, by omega, by omega, of_decide_eq_true rfl, ?_⟩
    rw [show ((m : Int)).toNat = m from Int.toNat_natCast m, flat1]
    walk_at "w"
    intro r0 hr0
    walk_at "w"
    refine ⟨_, up_same, by decide, by decide, of_decide_eq_true rfl, ?_⟩
    refine ⟨pp, hv _, hs, hd, hl, ?_⟩
    refine bF (by simp) ?_
    refine hr' _ _ ⟨_, _, rfl, f.put hr0, ?_⟩
    rw [up_ne (fun e => by rw [e, hr0] at h1; cases h1)]
    exact h1
theorem turn_ok (hk : k ≤ 2) (f : Fx M wa P) {o2 o3 o4 o5 o6 o7 o8 o9 o10 o11 : Option D} {r : DSt → MM → Prop} (hr : ∀ M' o2 o3 o4 o5 o6 o7 o8 o9 o10 o11, Fx M' wa P → r [some (.ref wa), some (conD k), o2, o3, o4, o5, o6, o7, o8, o9, o10, o11] M') : wpSs (G w (n + 11)) E turnS { D0 with nx := r } [some (.ref wa), some (conD k), o2, o3, o4, o5, o6, o7, o8, o9, o10, o11] M := by
  refine sqk 2 (fun σ M' => Fx M' wa P ∧ ∃ p4 p9 : Option D, σ = [some (.ref wa), some (conD k), o2, o3, p4, o5, o6, o7, o8, p9, o10, o11]) (fun r' hr' => turn_a f fun M' p4 p9 f' => hr' _ _ ⟨f', p4, p9, rfl⟩) fun σ M' ⟨f', p4, p9, e⟩ => ?_
  subst e
  refine sqk 3 (JB wa P (conD k)) (fun r' hr' => turn_b f' hr') fun σ M2 J => ?_
  refine sqk 1 (JC wa P (conD k)) (fun r' hr' => turn_c J hr') fun σ M3 J => ?_
  exact turn_d hk J hr
end
end RX.Lawk55
set_option Elab.async false
set_option linter.all false
set_option pp.deepTerms false
set_option pp.deepTerms.threshold 8
set_option maxRecDepth 1000000
set_option maxHeartbeats 4000000
/-! K55p: what is right; the law. -/
namespace RX.Lawk55
open PySem PySem.Spec PyProof.Rows L2 RX
local macro_rules | `(tactic| walk_at "w") => `(tactic| ((conv => whnf); repeat ((first | refine bT rfl ?_ | refine bF rfl ?_ | refine ⟨_, rfl, ?_⟩ | refine ⟨_, _, rfl, rfl, ?_⟩ | refine ⟨_, _, rfl, ?_⟩ | refine ⟨rfl, ?_⟩ | refine szA rfl ?_ | refine ⟨by decide, ?_⟩); (conv => whnf))))
variable {w : World}
theorem T_right : (L w).T ("_law_right", none) = some f_law_right := by kernel_rfl
theorem T_fresh_console : (L w).T ("fresh_console", none) = some f_fresh_console := by kernel_rfl
theorem T_law : (L w).T ("law", none) = some f_law := by kernel_rfl
theorem ct_fresh0 {n : Nat} {M : MM} {Q : DV} {E : XD} (q : Q (conD 0) M) : (L w).cl (n + 1) ("fresh_console", none) [] M Q E := by
  rw [Law.stp T_fresh_console]
  walk_at "w"
  exact rt_ q
theorem for_rng55 {Γ : Gam} {E : ED} {D : DEnds} {g : CG} {b ss : CSs} {σ : DSt} {M : MM} {k : Int} (h1 : -(2 ^ 62) ≤ k) (h2 : k < 2 ^ 62) (h : forD (fun _ => True) (wpG Γ E g) (wpSs Γ E b) { D with nx := wpSs Γ E ss D } (rngD 0 k.toNat) σ M) :
    wpSs Γ E (.cons (.for_ g (.range1 (.int k)) b) ss) D σ M := ⟨k, rfl, h1, h2, h⟩
theorem cut_rows {d : Int} (h0 : 0 ≤ d) (h3 : d < 3) : (cutD [D.str row1, D.str line2] none (some d)).length ≤ 2 ∧ ∀ i x, (cutD [D.str row1, D.str line2] none (some d))[i]? = some x → (i = 0 ∧ x = .str row1) ∨ (i = 1 ∧ x = .str line2) := by
  have hd : d = 0 ∨ d = 1 ∨ d = 2 := by omega
  rcases hd with rfl | rfl | rfl
  · refine ⟨by decide, fun i x h => ?_⟩
    have e : cutD [D.str row1, D.str line2] none (some 0) = [] := rfl
    rw [e] at h
    cases h
  · refine ⟨by decide, fun i x h => ?_⟩
    have e : cutD [D.str row1, D.str line2] none (some 1) = [D.str row1] := rfl
    rw [e] at h
    match i, h with
    | 0, h => cases h; exact .inl ⟨rfl, rfl⟩
    | _ + 1, h => cases h
  · refine ⟨by decide, fun i x h => ?_⟩
    have e : cutD [D.str row1, D.str line2] none (some 2) = [D.str row1, D.str line2] := rfl
    rw [e] at h
    match i, h with
    | 0, h => cases h; exact .inl ⟨rfl, rfl⟩
    | 1, h => cases h; exact .inr ⟨rfl, rfl⟩
    | _ + 2, h => cases h
theorem ct_right {n : Nat} {wa P : Addr} {M : MM} {Q : DV} {E : XD} (f : Fx M wa P) (q : ∀ M9 : MM, M9 P = some (.tbl lawR) → Q (.bl true) M9) : (L w).cl (n + 12) ("_law_right", none) [.ref wa] M Q E := by
  rw [Law.stp T_right]
  refine ⟨rfl, ?_⟩
  refine sqk 2 (fun σ M' => Fx M' wa P ∧ ∃ (k : Nat) (o2 : Option D), k ≤ 2 ∧ σ = [some (.ref wa), some (conD k), o2, none, none, none, none, none, none, none, none, none]) (fun r hr => ?_) ?_
  · obtain ⟨a, b, c, h⟩ := f.h
    walk_at "w"
    refine ct_fresh0 ?_
    generalize hc0 : conD 0 = c0
    walk_at "w"
    refine ct_draw h (by decide) (by decide) fun d a1 b1 c1 d0 d1 => ?_
    obtain ⟨hl, hx⟩ := cut_rows d0 d1
    refine ⟨d, rfl, ?_⟩
    show forD (fun _ => True) _ _ _ (cutD [D.str row1, D.str line2] none (some d)) _ _
    generalize cutD [D.str row1, D.str line2] none (some d) = xs at *
    have f1 : Fx (up M wa (wl a1 b1 c1)) wa P := f.wl
    generalize up M wa (wl a1 b1 c1) = M1 at *
    refine fo_all (fun i σ M' => M' = M1 ∧ i ≤ 2 ∧ ∃ o2 : Option D, σ = [some (.ref wa), some (conD i), o2, none, none, none, none, none, none, none, none, none]) (fun _ _ _ _ => trivial) ?_ ?_ ⟨rfl, by decide, none, by rw [← hc0]; rfl⟩
    · intro i x hi K σ M' ⟨eM, _, o2, eσ⟩ hK
      subst eM eσ
      rcases hx i x hi with ⟨rfl, rfl⟩ | ⟨rfl, rfl⟩
      · generalize hc1 : conD 0 = c1 at *
        walk_at "w"
        rw [← hc1]
        refine ct_said1 ?_
        generalize hc2 : conD 1 = c2 at *
        walk_at "w"
        refine hK _ _ ⟨rfl, by decide, some (.str row1), ?_⟩
        rfl
      · generalize hc1 : conD 1 = c1 at *
        walk_at "w"
        rw [← hc1]
        refine ct_said2 ?_
        generalize hc2 : conD 2 = c2 at *
        walk_at "w"
        refine hK _ _ ⟨rfl, by decide, some (.str line2), ?_⟩
        rfl
    · intro σ M' ⟨eM, _, o2, eσ⟩
      subst eM eσ
      exact hr _ _ ⟨f1, xs.length, o2, hl, rfl⟩
  intro σ M1 ⟨f1, k, o2, hk, eσ⟩
  subst eσ
  refine sqk 1 (fun σ M' => Fx M' wa P ∧ ∃ p2 p3 p4 p5 p6 p7 p8 p9 p10 p11 : Option D, σ = [some (.ref wa), some (conD k), p2, p3, p4, p5, p6, p7, p8, p9, p10, p11]) (fun r hr => for_rng55 (by decide) (by decide) ?_) ?_
  · refine fo_all (fun i σ M' => Fx M' wa P ∧ ∃ p2 p3 p4 p5 p6 p7 p8 p9 p10 p11 : Option D, σ = [some (.ref wa), some (conD k), p2, p3, p4, p5, p6, p7, p8, p9, p10, p11]) (fun _ _ _ _ => trivial) ?_ ?_ ⟨f1, _, _, _, _, _, _, _, _, _, _, rfl⟩
    · intro i x hi K σ M' ⟨f', p2, p3, p4, p5, p6, p7, p8, p9, p10, p11, eσ⟩ hK
      subst eσ
      exact turn_ok (n := n) (D0 := { nx := K, rt := _, bk := _, ct := _ }) hk f' fun M' q2 q3 q4 q5 q6 q7 q8 q9 q10 q11 f'' => hK _ _ ⟨f'', q2, q3, q4, q5, q6, q7, q8, q9, q10, q11, rfl⟩
    · intro σ M' h
      exact hr _ _ h
  intro σ M2 ⟨f2, p2, p3, p4, p5, p6, p7, p8, p9, p10, p11, eσ⟩
  subst eσ
  generalize conD k = con at *
  walk_at "w"
  refine ⟨⟨P, f2.p⟩, ?_⟩
  walk_at "w"
  refine ct_toldt (m := "str") rfl (by decide) (heardN ?_)
  walk_at "w"
  refine ⟨⟨P, f2.p⟩, ?_⟩
  walk_at "w"
  refine ct_toldt (m := "NoneType") rfl (by decide) (heardN ?_)
  walk_at "w"
  intro r0 hr0
  walk_at "w"
  refine ⟨_, up_same, by decide, by decide, of_decide_eq_true rfl, ?_⟩
  walk_at "w"
  refine ⟨true, eqXX okN, ?_⟩
  exact rt_ (q _ (f2.put hr0).p)
theorem lc_inv {g : DG} {tt : DT} {te : DE} {own : List Nat} {σ : DSt} {Q : List D → MM → Prop} {stab : MM → Prop} (I : MM → Prop) (f : D → D) (hs : ∀ M, I M → stab M) : ∀ (l acc : List D) (M : MM), I M → acc.length + l.length ≤ sizeLine →
    (∀ x ∈ l, ∀ Y N M, I M → (∀ M', I M' → Y (f x) M') → lcStep g tt te own σ x M Y N) → (∀ M, I M → Q (acc ++ l.map f) M) → lcD stab g tt te own σ Q l acc M
  | [], acc, M, i, _, _, q => by
    have q := q M i
    rw [List.map_nil, List.append_nil] at q
    exact ⟨hs M i, q⟩
  | x :: l, acc, M, i, hl, h, q => by
    simp only [List.length_cons] at hl
    refine ⟨hs M i, by omega, h x (List.mem_cons_self ..) _ _ M i fun M' i' => ?_⟩
    refine lc_inv I f hs l (acc ++ [f x]) M' i' (by simp only [List.length_append, List.length_cons, List.length_nil]; omega) (fun x hx => h x (List.mem_cons_of_mem _ hx)) fun M i => ?_
    have q := q M i
    rw [List.map_cons] at q
    rw [List.append_assoc]
    exact q
theorem rng_len : ∀ (n : Nat) (lo : Int), (rngD lo n).length = n
  | 0, _ => rfl
  | n + 1, lo => by
    show (rngD (lo + 1) n).length + 1 = _
    rw [rng_len n]
theorem rng_mem : ∀ (n : Nat) (lo : Int) (x : D), x ∈ rngD lo n → ∃ i : Nat, x = .int (lo + i) ∧ i < n
  | 0, _, _, h => by cases h
  | n + 1, lo, x, h => by
    rcases List.mem_cons.mp h with e | e
    · exact ⟨0, by rw [e]; simp, by omega⟩
    · obtain ⟨i, e1, e2⟩ := rng_mem n (lo + 1) x e
      exact ⟨i + 1, by rw [e1]; congr 1; push_cast; omega, by omega⟩
theorem law_cl {ns : List Int} {M : MM} (hl : ns.length ≤ 63) (hP : ∃ P, M P = some (.tbl lawR)) : (L w).cl 60 ("law", none) [.lst (ns.map D.int)] M (fun d _ => d = .bl true) XF := by
  obtain ⟨P, hP⟩ := hP
  rw [Law.stp T_law]
  walk_at "w"
  refine ⟨by omega, by omega, ?_⟩
  refine lc_inv (fun M' => M' P = some (.tbl lawR)) (fun _ => .bl true) (fun _ _ => trivial) _ [] _ hP (by rw [rng_len]; simp only [sizeLine, List.length_nil]; omega) (fun x hx Y N M' i y => ?_) fun M' _ => ?_
  · obtain ⟨j, rfl, hj⟩ := rng_mem _ _ _ hx
    walk_at "w"
    rw [Int.zero_add]
    refine ct_well hl fun wa a b c hw => ?_
    walk_at "w"
    refine ct_right (P := P) ⟨⟨a, b, c, up_same⟩, by rw [up_ne (fun e => by rw [e, hw] at i; cases i)]; exact i⟩ fun M9 h9 => ?_
    exact y _ h9
  · walk_at "w"
    generalize rngD 0 _ = l
    refine ⟨l.map fun _ => true, ?_, ?_⟩
    · show some _ = _
      rw [List.nil_append, List.map_map]
      rfl
    · have : (l.map fun _ => true).all id = true := by simp
      rw [this]
      exact ⟨_, .refl, rfl⟩
theorem law_ct : ∀ (ns : List Int), ns.length ≤ 63 → (∀ z ∈ ns, Builtin.Int.intBits z ≤ 1048576) → ∀ M : MM, (∀ T ∈ (["_law_right"] : List Str), ∃ P, M P = some (.tbl T)) → wpF (L w).T (L w).gl (L w).fl (L w).wd 60 ("law", none) [.lst (ns.map D.int)] M (fun d _ => d = .bl true) XF := fun ns hl _ M hM => by
  have := law_cl (w := w) (M := M) hl (hM _ (List.mem_singleton.mpr rfl))
  unfold Law.cl at this
  exact this
end RX.Lawk55
set_option Elab.async false
set_option linter.all false
set_option maxRecDepth 1000000
set_option maxHeartbeats 0
/-! K55x: what the head's facts tell of the exceptions and of what is heard. -/
namespace RX.Lawk55
open PySem PySem.Spec PyProof.Rows L2 RX
def ap (st : Stmt) (i : Nat) : Pos := match (defArgs st).args[i]? with
  | some a => a.pos
  | none => ⟨0, 0, 0, 0⟩
def bps (st : Stmt) : List Pos := match defBody st with
  | [.Expr (.Call (.Attribute (.Call (.Name _ p0) [] [] p1) _ p2) [] [] p3) p4, .Assign [.Attribute (.Name _ q0) _ q1] (.Name _ q2) q3] => [p0, p1, p2, p3, p4, q0, q1, q2, q3]
  | _ => []
def bp (st : Stmt) (i : Nat) : Pos := (bps st).getD i ⟨0, 0, 0, 0⟩
theorem iniOk_of {f : Str} {st : Stmt} (h1 : defArgs st = xiArgs f (ap st 0) (ap st 1)) (h2 : defBody st = xiBody f (bp st 0) (bp st 1) (bp st 2) (bp st 3) (bp st 4) (bp st 5) (bp st 6) (bp st 7) (bp st 8)) (h3 : defScope st = xiScope f) (h4 : ((bp st 2).endLine == (bp st 3).line) = true) : IniOk f st := ⟨_, _, _, _, _, _, _, _, _, _, _, h1, h2, h3, h4⟩
theorem ini0 : IniOk "index" (meth (top 22) 0) := iniOk_of (by kernel_rfl) (by kernel_rfl) (by kernel_rfl) (by kernel_rfl)
theorem ini1 : IniOk "index" (meth (top 23) 0) := iniOk_of (by kernel_rfl) (by kernel_rfl) (by kernel_rfl) (by kernel_rfl)
theorem ini_all : ∀ q ∈ xcL.zip xsts, IniOk q.1.2 q.2 := by
  unfold xcL xsts
  simp only [List.zip_cons_cons, List.zip_nil_right, List.zip_nil_left, List.forall_mem_cons, List.not_mem_nil, false_imp_iff, implies_true, and_true]
  exact ⟨ini0, ini1⟩
theorem sup : (R.prog.main.scope.names.lookup ("super" : Str)).isSome = false := by kernel_rfl
theorem xtB_lam {K : PySem.W.Frag} {file : Str} {x : Xt} (h : xtB K file x = true) : ((∀ T ∈ x.lams, lamB K T = true) ∧ (x.lams.map (tabA K)).Nodup) ∧ ∀ p ∈ x.gts, tupB K p.1 p.2 = true := by
  unfold xtB at h
  simp only [Bool.and_eq_true, List.all_eq_true, decide_eq_true_eq] at h
  exact ⟨⟨h.2.1.1, h.2.1.2.1⟩, h.2.1.2.2⟩
theorem xtB_0 {K : PySem.W.Frag} {file : Str} (h : xtB K file xtL = true) : xtB K file xt0 = true := by
  have hg := (xtB_lam h).2
  unfold xtB at h ⊢
  rw [Bool.and_eq_true, Bool.and_eq_true] at h ⊢
  refine ⟨h.1, ?_, h.2.2⟩
  rw [Bool.and_eq_true, Bool.and_eq_true, List.all_eq_true, List.all_eq_true, decide_eq_true_eq]
  exact ⟨(fun _ z => nomatch z), List.nodup_nil, fun p hp => hg p hp⟩
theorem chkH : hdB xt0 hd_law_heard (defScope (top 202)) (defBody (top 202)) = true := by kernel_rfl
theorem rdy {w : World} {K : PySem.W.Frag} {mg : Str → Option Value} {h : Heap} (X : K.In h) (G : h.Ns mainGlobals mg) (c : obX K = valX) : Ready K mg (L w).W := by
  have c1 : He.SaysD fas fns K := (Prod.mk.inj c).1
  have c2 : RX.xtB K pw.main.file xtL = true := (Prod.mk.inj (Prod.mk.inj c).2).1
  have c1' : He.SaysD (L w).fa (L w).fn K := by rw [fas_eq, fns_eq]; exact c1
  exact ready_of X G c1' bds chk (xtB_lam c2).2
theorem xok {w : World} {K : PySem.W.Frag} {mg : Str → Option Value} {base h : Heap} (X : K.In h) (G : h.Ns mainGlobals mg) (c : obX K = valX) (tb : ∀ T ∈ (L w).xt.lams, LamX.TabB base mg (codA K T) (tabA K T)) : XOk R.prog w K mg base (L w).xt 1 := by
  have c1 : He.SaysD fas fns K := (Prod.mk.inj c).1
  have c2 : RX.xtB K pw.main.file xtL = true := (Prod.mk.inj (Prod.mk.inj c).2).1
  have c3 : (xcL.map fun p => RX.fnX2 K p.1) = (xcL.zip xsts).map fun q => RX.valX2 q.1.1 q.2 := (Prod.mk.inj (Prod.mk.inj c).2).2
  have c1' : He.SaysD (L w).fa (L w).fn K := by rw [fas_eq, fns_eq]; exact c1
  have X0 : XOk R.prog w K mg base xt0 1 := xtB_ok (x := xt0) (sts := xsts) X G (xtB_0 c2) c3 rfl ini_all sup (fun _ _ z => nomatch z) (fun _ _ z => nomatch z) (fun _ z => nomatch z)
  have rd := rdy (w := w) X G c
  refine xtB_ok (x := xtL) (sts := xsts) X G c2 c3 rfl ini_all sup (fun _ _ z => nomatch z) (fun g hd hg => ?_) tb
  have hg' : (g, hd) ∈ [(("_law_heard" : Str), hd_law_heard)] := hg
  simp only [List.mem_cons, List.not_mem_nil, or_false, Prod.mk.injEq] at hg'
  obtain ⟨rfl, rfl⟩ := hg'
  have he : e_law_heard ∈ (L w).hs := List.mem_singleton.mpr rfl
  obtain ⟨i, hi⟩ := fn_hs he
  obtain ⟨fd, F⟩ := c1'.def_ i hi
  have F' : FunD K "_law_heard" "_law_heard" (defArgs (top 202)) (defBody (top 202)) (defScope (top 202)) [] [] (He.ga K "_law_heard") fd := F
  have hm : mg "_law_heard" = some (.ref (He.ga K "_law_heard")) := He.glo_ok X G (fact_of c1' (by
    unfold Law.fa
    exact List.mem_append_right _ (List.mem_append_right _ (List.mem_append_right _ (List.mem_append_right _ (List.mem_append_right _ (List.mem_append_right _ (List.mem_map.mpr ⟨_, he, rfl⟩))))))))
  exact hdFact (Nat.le_refl _) F' hm (F'.bindsN (b_law_heard (w := w)).bd) X0 rd.bn chkH
end RX.Lawk55
set_option Elab.async false
set_option linter.all false
set_option maxRecDepth 1000000
set_option maxHeartbeats 0
namespace RX.Lawk55
open PySem PySem.Spec PyProof.Rows L2 RX
theorem end_ (w : World) (mg : Str → Option Value) (fa : Addr) (h : Heap) (Y : hk.says w h) (G : h.Ns mainGlobals mg) (hmg0 : mg (HandSHeadRun.topDef R.prog 204).name = some (.ref fa)) :
    ∃ (K : PySem.W.Frag) (fd : FuncData) (g : CallT), K.In h ∧ ((∀ T ∈ (["_law_right"] : List Str), lamB K T = true) ∧ ((["_law_right"] : List Str).map (tabA K)).Nodup) ∧ (∀ (s : Shared) (u : Value), BindsTo s fd ⟨[u], []⟩ [("script", u)]) ∧
        (∀ (ns : List Int), ns.length ≤ 63 → (∀ z ∈ ns, Builtin.Int.intBits z ≤ 1048576) → ∀ M : MM, (∀ T ∈ (["_law_right"] : List Str), ∃ P, M P = some (.tbl T)) → g [.lst (ns.map D.int)] M (fun d _ => d = .bl true) XF) ∧
        ∀ base : Heap, K.In base → base.Ns mainGlobals mg → (∀ T ∈ (["_law_right"] : List Str), LamX.TabB base mg (codA K T) (tabA K T)) → FnG R.prog w K mg base 61 fa fd ["script"] g := by
  obtain ⟨K, KX, c⟩ := Y
  have hmg : mg ("law" : PySem.Str) = some (.ref fa) := by
    have e : (HandSHeadRun.topDef R.prog 204).name = ("law" : PySem.Str) := by kernel_rfl
    rw [← e]
    exact hmg0
  have c2 : RX.xtB K pw.main.file xtL = true := (Prod.mk.inj (Prod.mk.inj c).2).1
  obtain ⟨fd, hb, hF⟩ := law_of (L := L w) (P := R.prog) (w := w) (e := e_law) (x := "script") (n := 60) KX G (by rw [fas_eq, fns_eq]; exact (Prod.mk.inj c).1) bds chk (by show e_law ∈ tabL; unfold tabL; simp) (by kernel_rfl) rfl rfl hmg rfl (xtB_lam c2).2 (fun base hb1 hb2 hb3 => xok KX G c hb3)
  exact ⟨K, fd, _, KX, (xtB_lam c2).1, hb, law_ct, hF⟩
end RX.Lawk55
open PySem PySem.W PySem.Calls PyProof.Rows
theorem PySem.Challenge.cw_instances_k55_lines_refused_holds : PySem.Challenge.rw_instances_k55_lines_refused.Holds := by
  refine RX.Lawk55.law_from fun said => ?_
  refine HandSHeadRun.head_any (r := RX.Lawk55.R) (q := RX.Lawk55.vw) (H := RX.Lawk55.hk) (ob := RX.Lawk55.ob) (M := 10000) (loose := RX.Lawk55.loose) (d := HandSHeadRun.topDef RX.Lawk55.R.prog 204) (kwd := []) RX.Lawk55.ob_eq
    RX.Lawk55.z_e RX.Lawk55.z_f RX.Lawk55.run RX.Lawk55.z_def RX.Lawk55.z_hp RX.Lawk55.z_hk RX.Lawk55.z_hwr said RX.Lawk55.z_ok RX.Lawk55.z_hb RX.Lawk55.z_hw ?hc
  case hc => exact RX.walk_G (l := PySem.Challenge.rw_instances_k55_lines_refused) (n := 63) (k := 61) (x := "script") (lams := ["_law_right"]) rfl (by decide) (by kernel_rfl) ⟨rfl, by decide, by decide⟩ (fun T hT => by rw [List.mem_singleton.mp hT]; kernel_rfl) RX.Lawk55.end_
