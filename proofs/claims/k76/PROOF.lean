import PyProof.Rows.All
import Wide.All
import OpenK.AllK
import Wide.FinOn
import HandS.ForMost
import HandS.Defaults
import HandS.Codes
import HandS.Head0
import HandS.Head1
import HandS.Head2
import HandS.Head3
import HandS.HeadHook1
import HandS.HeadHook2
import KE.KExcSuper
import KE.KIsAll
import KE.KTryMore
import HandS.More
import HandS.Wide
import HandS.Gcd
import HandS.TupAny
import HandS.Style
import HandS.StrMore
import HandS.IsInst
import HandS.WordsExc
import HandS.Conv
import HandS.ReplaceLit
import HandS.Property
import HandS.ClsMeth
import HandS.HeadEnd
import HandS.ForExc
import HandS.ExcOwn
import HandS.ExcInit
import HandS.HeadWalk
import HandS.ExcIs
import PySem.Challenge.RW_closedratios_k76_whole_journals_cut
set_option Elab.async false
set_option linter.all false
set_option maxRecDepth 100000
set_option maxHeartbeats 4000000
/-! PV0: the head's facts, in chunks, over a short list of addresses: what they are. -/
namespace CR
open PySem PySem.Spec L2
/-! ### addresses -/
def recAt (K : PySem.W.Frag) (T : String) (i : Nat) (p : Addr) : Addr := match PySem.W.recIn K p T with
  | some l => (match l[i]? with
    | some (.ref g) => g
    | _ => 0)
  | none => 0
inductive Ad where
  | glo (x : Str) | met (C m : Str) | get (C m : Str) | set (C m : Str) | cm (C m : Str)
def Ad.at_ (K : PySem.W.Frag) : Ad → Addr
  | .glo x => He.ga K x
  | .met C m => He.ma K (He.ga K C) m
  | .get C m => recAt K "property" 0 (He.ma K (He.ga K C) m)
  | .set C m => recAt K "property" 1 (He.ma K (He.ga K C) m)
  | .cm C m => recAt K "classmethod" 0 (He.ma K (He.ga K C) m)
def fnA (K : PySem.W.Frag) (a : Addr) : He.FnW := match K.lookup a with
  | some ⟨_, _, .func fd, _⟩ => some (fd.name, fd.qualname, fd.params, fd.body, fd.scope, fd.globals, fd.closure, fd.builtins)
  | _ => none
structure DefA where
  at_ : Ad
  name : Str
  qual : Str
  st : Stmt
  dfl : List V := []
def DefA.val (d : DefA) : He.FnW := some (d.name, d.qual, defArgs d.st, .stmts (defBody d.st), defScope d.st, mainGlobals, [], builtinsNs)
def DefA.obs (K : PySem.W.Frag) (d : DefA) : He.FnW := fnA K (d.at_.at_ K)
def DefA.ok (K : PySem.W.Frag) (d : DefA) : Bool := PySem.W.keepIn K (.ref (d.at_.at_ K)) && (match K.lookup (d.at_.at_ K) with
  | some ⟨_, _, .func fd, _⟩ => PySem.W.codeIn K fd.code d.qual && He.dflB K fd.defaults d.dfl
  | _ => false)
/-! ### facts -/
inductive Fb where
  | fa (f : He.Fa)
  | blt (x : Str) (id : String)
  | tup (x : Str) (vs : List He.Dv)
  | prop (C m : Str)
  | pset (C m : Str)
  | cread (C : Str)
  | cmet (C m : Str)
  | nodig
  | exm (A B : Str) (b : Bool)
  | kit (A B : Str) (b : Bool)
def Fb.ok (K : PySem.W.Frag) : Fb → Bool
  | .fa f => f.ok K
  | .blt x id => He.eqO (PySem.W.nsIn K mainGlobals x) (some (some (.builtin id)))
  | .tup x vs => He.tupB K x vs
  | .prop C m => He.eqO (PySem.W.findIn K (.ref (He.ga K C)) m) (some (some (.ref (He.ma K (He.ga K C) m)))) && (He.eqO (PySem.W.specialIn K (.ref (He.ma K (He.ga K C) m)) "__get__") (some (some (.builtin "property.__get__"))) &&
      (decide (PySem.W.takesIn K (.ref (He.ma K (He.ga K C) m)) = some true) && (match PySem.W.recIn K (He.ma K (He.ga K C) m) "property" with
        | some (.ref _ :: _) => true
        | _ => false)))
  | .pset C m => He.eqO (PySem.W.takerIn K (He.ga K C) m) (some (some (.ref (He.ma K (He.ga K C) m)))) && (decide (PySem.W.typeIn K (.ref (He.ma K (He.ga K C) m)) = some (.type "property")) && (match PySem.W.recIn K (He.ma K (He.ga K C) m) "property" with
        | some (_ :: .ref _ :: _) => true
        | _ => false))
  | .cread C => PySem.W.readsIn K (He.ga K C) (.type "type") && He.eqO (PySem.W.specialIn K (.ref (He.ga K C)) "__getattribute__") (some (some (.builtin "type.__getattribute__")))
  | .cmet C m => (match PySem.W.findCls K (.ref (He.ga K C)) (.type "type") m with
      | some (.get (.builtin b) (.ref p) .none (.ref D)) => decide (b = "classmethod.__get__") && (decide (p = He.ma K (He.ga K C) m) && decide (D = He.ga K C))
      | _ => false) && ((match PySem.W.recIn K (He.ma K (He.ga K C) m) "classmethod" with
        | some (.ref _ :: _) => true
        | _ => false) && PySem.W.fnIn K (recAt K "classmethod" 0 (He.ma K (He.ga K C) m)))
  | .exm A B b => decide (PySem.W.exmOne K (.ref (He.ga K A)) (.ref (He.ga K B)) = some b)
  | .kit A B b => decide (PySem.W.kitOne K (.ref (He.ga K A)) (.ref (He.ga K B)) = some b)
  | .nodig => PySem.W.nsOkIn K cStatics && He.eqO (PySem.W.nsIn K cStatics "sys.int_max_str_digits") (some none)
/-! ### the Hook, in chunks -/
/-- an error's class, its __init__ -/
structure DefX where
  C : Str
  f : Str
  qual : Str
  st : Stmt
  file : Str
def DefX.ini (K : PySem.W.Frag) (d : DefX) : Addr := He.ma K (He.ga K d.C) "__init__"
def DefX.obs (K : PySem.W.Frag) (d : DefX) : He.FnW := match K.lookup (d.ini K) with
  | some ⟨_, _, .func fd, _⟩ => some (fd.name, fd.qualname, fd.params, fd.body, fd.scope, fd.globals, [], fd.builtins)
  | _ => none
def DefX.val (d : DefX) : He.FnW := some ("__init__", d.qual, defArgs d.st, .stmts (defBody d.st), defScope d.st, mainGlobals, [], builtinsNs)
def xcls (K : PySem.W.Frag) (C : Addr) : Bool := match K.lookup C with
  | some ⟨.type t, _, .cls cd, sl⟩ => (match cd.mro, sl.toList with
    | .ref C' :: bm, [_, _, _, _, some (.builtin n), _] => decide (t = "type") && (decide (C' = C) && (decide (n = "ValueError.__new__") && (cd.hasDict && (!cd.hasDel && PySem.HandSPX.refsVE bm))))
    | _, _ => false)
  | _ => false
def xfn (K : PySem.W.Frag) (C a : Addr) (qual file : Str) : Bool := match K.lookup a with
  | some ⟨_, _, .func fd, _⟩ => (match fd.closure, fd.defaults, fd.kwdefaults, fd.code with
    | [(nm, cc)], .none, .none, .ref cda => decide (nm = "__class__") && (PySem.W.codeIn K (.ref cda) qual && ((match K.lookup cda with
      | some ⟨_, _, .fields vs, _⟩ => (match (vs[2]? : Option Value) with
        | some (.str fl _) => decide (fl = file)
        | _ => false)
      | _ => false) && (match K.lookup cc with
      | some ⟨_, _, .cell (some (.ref D)), _⟩ => decide (D = C)
      | _ => false)))
    | _, _, _, _ => false)
  | _ => false
def DefX.oks (K : PySem.W.Frag) (d : DefX) : List Bool := let C := He.ga K d.C
  [xcls K C, He.eqO (PySem.W.findIn K (.ref C) "__setattr__") (some (some (.builtin "object.__setattr__"))), He.eqO (PySem.W.findIn K (.ref C) "__getattribute__") (some (some (.builtin "BaseException.__getattribute__"))),
   He.eqO (PySem.W.findIn K (.ref C) "__getattr__") (some none), He.eqO (PySem.W.findIn K (.ref C) d.f) (some none), He.eqO (PySem.W.findIn K (.ref C) "__init__") (some (some (.ref (d.ini K)))), decide (PySem.W.typeIn K (.ref (d.ini K)) = some (.type "function")),
   PySem.W.keepIn K (.ref C), decide (PySem.W.subIn K (.ref C) (.type "BaseException") = some true), decide (PySem.W.subIn K (.ref C) (.type "ValueError") = some true), decide (PySem.W.mroIn K C (.ref C) = some true), decide (PySem.W.typeIn K (.ref C) = some (.type "type")),
   PySem.W.hasDictIn K C, He.eqO (PySem.W.ks_superIn K C C "__init__") (some (some (.builtin "ValueError.__init__"))), He.eqO (PySem.W.nsIn K mainGlobals "super") (some none), He.eqO (PySem.W.nsIn K cStatics "thirdparty.any") (some none), xfn K C (d.ini K) d.qual d.file,
   He.eqO (PySem.W.findIn K (.ref C) "__class__") (some (some (.builtin "object.__class__"))), He.eqO (PySem.W.specialIn K (.builtin "object.__class__") "__get__") (some (some (.builtin "getset_descriptor.__get__"))), decide (PySem.W.takesIn K (.builtin "object.__class__") = some true), decide (PySem.W.mroIn K C (.type "object") = some true)]
def DefX.ok (K : PySem.W.Frag) (d : DefX) : Bool := (d.oks K).all id
structure Chunk where
  fb : List Fb
  da : List DefA
  dx : List DefX := []
def Chunk.obs (K : PySem.W.Frag) (c : Chunk) : He.AlD := ((c.fb.all fun f => f.ok K) && ((c.da.all fun d => d.ok K) && c.dx.all fun d => d.ok K), (c.da.map fun d => d.obs K) ++ c.dx.map fun d => d.obs K)
def Chunk.val (c : Chunk) : He.AlD := (true, c.da.map DefA.val ++ c.dx.map DefX.val)
def fnx (g : Addr → Option Obj) (a : Addr) : List Addr := match g a with
  | some ⟨_, _, .func fd, _⟩ => He.refV fd.code ++ He.refV fd.defaults
  | _ => []
def mem1 (g : Addr → Option Obj) (v : Value) : List Addr := match v with
  | .ref b => b :: (match g b with
    | some ⟨_, _, .func fd, _⟩ => He.refV fd.code ++ (He.refV fd.defaults ++ fd.closure.map (·.2))
    | some ⟨_, _, .fields vs, _⟩ => vs.toList.flatMap fun v => match v with
      | .ref c => c :: fnx g c
      | _ => []
    | _ => [])
  | _ => []
def nsVals (g : Addr → Option Obj) (n : Addr) : List Value := match g n with
  | some ⟨_, _, .dict es _, _⟩ => es.toList.map fun e => e.val
  | _ => []
def clx (g : Addr → Option Obj) (v : Value) : List Addr := match v with
  | .ref a => a :: (match g a with
    | some ⟨_, _, .func fd, _⟩ => He.refV fd.code ++ He.refV fd.defaults
    | some ⟨_, _, .cls cd, _⟩ => cd.ns :: (nsVals g cd.ns).flatMap (mem1 g)
    | _ => [])
  | _ => []
def asL (g : Addr → Option Obj) : List Addr := mainGlobals :: cStatics :: (nsVals g mainGlobals).flatMap (clx g)
def KL (g : Addr → Option Obj) : PySem.W.Frag := He.frG g (asL g)
end CR

set_option Elab.async false
set_option linter.all false
set_option maxRecDepth 100000
set_option maxHeartbeats 4000000
/-! D00: the text by places. -/
namespace CR
open PySem PySem.Spec L2
def top (i : Nat) : Stmt := PySem.Challenge.pw_closedratios_k76_whole_journals_cut.main.body.getD i (.Pass ⟨0, 0, 0, 0⟩)
def meth (i j : Nat) : Stmt := (C8.clsBody (top i)).getD j (.Pass ⟨0, 0, 0, 0⟩)
end CR

set_option Elab.async false
set_option linter.all false
set_option maxRecDepth 100000
set_option maxHeartbeats 0
/-! the head: facts, the run -/
namespace CR
open PySem PySem.W L2
abbrev R0 : OpenRow := OpenLaw.row PySem.Challenge.rw_closedratios_k76_whole_journals_cut
abbrev Vw : Program := view R0.prog [0, 159]
def loose0 : List Str := ["_wall", "__name__", "ReleaseError", "ProgramError", "Unknown", "Twice", "BadNumber", "BadQuestion", "Refused", "TooMany", "ONE", "ratio", "times", "over", "is_below", "reduced", "question_of", "answers_of", "is_step_of", "BASE", "DIGITS", "BLOCK", "BLOCK_DIGITS", "MOST_DIGITS", "check_number", "decimal", "sealed", "lot_line", "ask_line", "say_line"]
def loose1 : List Str := ["small_number", "field", "whole_lines", "begin", "asked_on", "said_on", "read_on", "read_journal", "held", "value_in", "combined", "names_in", "check", "check_many", "check_different", "check_known", "check_within", "check_near", "check_gauges", "check_gauge", "check_gauge_names", "check_modes", "values_in", "check_release", "check_rows", "check_row", "count_answers", "check_goes", "go_behind", "goes_of"]
def loose2 : List Str := ["rooms_of", "gauge_names", "lots_of", "stepped", "stepped_seen", "stepped_count", "first_values", "stepped_all", "MOST_STATES", "after", "state_of", "check_room", "machine", "MOST_WORTH", "rows_of", "lot_answers", "weights_of", "power_of", "spread_weights", "spin_weights", "choice_weights", "all_edits", "near_edits", "nearness_of", "gauge_of", "gauges_of", "question_built", "build", "number_told", "answer_told"]
def loose3 : List Str := ["Sitting", "Guard", "_law_begin", "_law_draw", "_law_pick", "_law_is_int", "_law_is_ints", "_law_is_rows", "_law_gcd", "_law_f", "_law_plus", "_law_minus", "_law_times", "_law_over", "_law_less", "_law_great", "_law_is_frac", "_law_row", "_law_all_edits", "_law_near", "_law_table", "_law_reader", "_law_state", "_law_goes", "_law_shown", "_law_ladder", "_law_question", "_law_house", "_law_small_house", "_law_busy"]
def loose4 : List Str := ["_law_broad", "_law_long", "_law_some_house", "_law_price", "_law_rates", "_law_budget", "_law_number", "_law_ticket", "_law_line", "_law_begun", "_law_call", "_law_call_drawn", "_law_asked", "_law_is_told", "_law_shows", "_law_is_read", "_law_fallen", "_law_begins_anew", "_law_falls_everywhere", "_law_falls", "_law_is_paid"]
def looseA : List Str := loose0 ++ (loose1 ++ (loose2 ++ (loose3 ++ (loose4))))
def cf0 : List Fb := [.fa (.free "len"), .fa (.free "range"), .fa (.free "sum"), .fa (.free "tuple"), .fa (.free "list"), .fa (.free "max"), .fa (.free "min"), .fa (.free "abs"), .fa (.free "int"), .fa (.free "str"), .fa (.free "ord"), .fa (.free "all"), .fa (.free "isinstance"), .fa (.free "bool"), .blt "gcd" "math.gcd", .nodig, .fa (.glo "_law_draw"), .fa (.glo "_law_pick"), .fa (.glo "_law_is_int"), .fa (.glo "_law_is_ints"), .fa (.glo "_law_is_rows"), .fa (.glo "_law_gcd"), .fa (.glo "_law_f"), .fa (.glo "ratio"), .fa (.glo "_law_times"), .fa (.glo "times"), .fa (.glo "_law_plus"), .fa (.glo "_law_minus"), .fa (.glo "_law_less"), .fa (.glo "is_below"), .fa (.glo "_law_great"), .fa (.glo "_law_is_frac"), .fa (.glo "_law_row"), .fa (.glo "_law_all_edits"), .fa (.glo "_law_near"), .fa (.glo "_law_table"), .fa (.glo "_law_reader"), .fa (.glo "_law_goes"), .fa (.glo "_law_shown"), .fa (.glo "_law_ladder"), .fa (.glo "_law_question"), .fa (.glo "_law_house"), .fa (.glo "_law_small_house"), .fa (.glo "_law_busy"), .fa (.glo "_law_number"), .fa (.glo "number_told"), .fa (.glo "_law_ticket"), .fa (.glo "_law_price")]
def cd0 : List DefA := [⟨.glo "_law_draw", "_law_draw", "_law_draw", top 111, []⟩, ⟨.glo "_law_pick", "_law_pick", "_law_pick", top 112, []⟩, ⟨.glo "_law_is_int", "_law_is_int", "_law_is_int", top 113, []⟩, ⟨.glo "_law_is_ints", "_law_is_ints", "_law_is_ints", top 114, []⟩, ⟨.glo "_law_is_rows", "_law_is_rows", "_law_is_rows", top 115, []⟩, ⟨.glo "_law_gcd", "_law_gcd", "_law_gcd", top 116, []⟩, ⟨.glo "_law_f", "_law_f", "_law_f", top 117, []⟩, ⟨.glo "ratio", "ratio", "ratio", top 13, []⟩, ⟨.glo "_law_times", "_law_times", "_law_times", top 120, []⟩, ⟨.glo "times", "times", "times", top 14, []⟩, ⟨.glo "_law_plus", "_law_plus", "_law_plus", top 118, []⟩, ⟨.glo "_law_minus", "_law_minus", "_law_minus", top 119, []⟩, ⟨.glo "_law_less", "_law_less", "_law_less", top 122, []⟩, ⟨.glo "is_below", "is_below", "is_below", top 16, []⟩, ⟨.glo "_law_great", "_law_great", "_law_great", top 123, []⟩, ⟨.glo "_law_is_frac", "_law_is_frac", "_law_is_frac", top 124, []⟩, ⟨.glo "_law_row", "_law_row", "_law_row", top 125, []⟩, ⟨.glo "_law_all_edits", "_law_all_edits", "_law_all_edits", top 126, []⟩, ⟨.glo "_law_near", "_law_near", "_law_near", top 127, []⟩, ⟨.glo "_law_table", "_law_table", "_law_table", top 128, []⟩, ⟨.glo "_law_reader", "_law_reader", "_law_reader", top 129, []⟩, ⟨.glo "_law_goes", "_law_goes", "_law_goes", top 131, []⟩, ⟨.glo "_law_shown", "_law_shown", "_law_shown", top 132, []⟩, ⟨.glo "_law_ladder", "_law_ladder", "_law_ladder", top 133, []⟩, ⟨.glo "_law_question", "_law_question", "_law_question", top 134, []⟩, ⟨.glo "_law_house", "_law_house", "_law_house", top 135, []⟩, ⟨.glo "_law_small_house", "_law_small_house", "_law_small_house", top 136, []⟩, ⟨.glo "_law_busy", "_law_busy", "_law_busy", top 137, []⟩, ⟨.glo "_law_number", "_law_number", "_law_number", top 144, []⟩, ⟨.glo "number_told", "number_told", "number_told", top 104, []⟩, ⟨.glo "_law_ticket", "_law_ticket", "_law_ticket", top 145, []⟩, ⟨.glo "_law_price", "_law_price", "_law_price", top 141, []⟩]
def cx0 : List DefX := []
def ch0 : Chunk := ⟨cf0, cd0, cx0⟩
def cf1 : List Fb := [.fa (.glo "_law_rates"), .fa (.glo "_law_budget"), .fa (.glo "_law_broad"), .fa (.glo "_law_long"), .fa (.glo "_law_some_house"), .fa (.int "BASE" 9973), .fa (.glo "check_number"), .fa (.glo "_law_line"), .fa (.int "BLOCK" (10 ^ 60)), .fa (.int "BLOCK_DIGITS" 60), .fa (.glo "decimal"), .fa (.glo "sealed"), .fa (.glo "lot_line"), .fa (.glo "ask_line"), .fa (.glo "say_line"), .fa (.str "DIGITS" "0123456789"), .fa (.int "MOST_DIGITS" 6), .fa (.glo "small_number"), .fa (.glo "field"), .fa (.glo "whole_lines"), .tup "ONE" [.int 1, .int 1], .fa (.glo "ONE"), .fa (.glo "begin"), .fa (.glo "question_of"), .fa (.glo "answers_of"), .fa (.glo "is_step_of"), .fa (.glo "asked_on"), .fa (.glo "said_on"), .fa (.glo "read_on"), .fa (.glo "read_journal"), .fa (.glo "_law_begun"), .fa (.glo "_law_is_read"), .fa (.cls "Sitting"), .fa (.noat "Sitting" "contents"), .fa (.glo "Sitting"), .prop "Sitting" "mode", .prop "Sitting" "lot", .prop "Sitting" "talk", .pset "Sitting" "standing", .fa (.meth "Sitting" "resume"), .fa (.glo "after"), .fa (.glo "state_of"), .fa (.glo "_law_state"), .fa (.noat "Sitting" "read_state"), .fa (.noat "Sitting" "sat_house"), .fa (.mkr "Sitting")]
def cd1 : List DefA := [⟨.glo "_law_rates", "_law_rates", "_law_rates", top 142, []⟩, ⟨.glo "_law_budget", "_law_budget", "_law_budget", top 143, []⟩, ⟨.glo "_law_broad", "_law_broad", "_law_broad", top 138, []⟩, ⟨.glo "_law_long", "_law_long", "_law_long", top 139, []⟩, ⟨.glo "_law_some_house", "_law_some_house", "_law_some_house", top 140, []⟩, ⟨.glo "check_number", "check_number", "check_number", top 30, []⟩, ⟨.glo "_law_line", "_law_line", "_law_line", top 146, []⟩, ⟨.glo "decimal", "decimal", "decimal", top 31, []⟩, ⟨.glo "sealed", "sealed", "sealed", top 32, []⟩, ⟨.glo "lot_line", "lot_line", "lot_line", top 33, []⟩, ⟨.glo "ask_line", "ask_line", "ask_line", top 34, []⟩, ⟨.glo "say_line", "say_line", "say_line", top 35, []⟩, ⟨.glo "small_number", "small_number", "small_number", top 36, []⟩, ⟨.glo "field", "field", "field", top 37, []⟩, ⟨.glo "whole_lines", "whole_lines", "whole_lines", top 38, []⟩, ⟨.glo "begin", "begin", "begin", top 39, []⟩, ⟨.glo "question_of", "question_of", "question_of", top 20, []⟩, ⟨.glo "answers_of", "answers_of", "answers_of", top 21, []⟩, ⟨.glo "is_step_of", "is_step_of", "is_step_of", top 23, []⟩, ⟨.glo "asked_on", "asked_on", "asked_on", top 40, []⟩, ⟨.glo "said_on", "said_on", "said_on", top 41, []⟩, ⟨.glo "read_on", "read_on", "read_on", top 42, []⟩, ⟨.glo "read_journal", "read_journal", "read_journal", top 43, []⟩, ⟨.glo "_law_begun", "_law_begun", "_law_begun", top 147, []⟩, ⟨.glo "_law_is_read", "_law_is_read", "_law_is_read", top 153, []⟩, ⟨.get "Sitting" "mode", "mode", "Sitting.mode", meth 106 2, []⟩, ⟨.get "Sitting" "lot", "lot", "Sitting.lot", meth 106 3, []⟩, ⟨.get "Sitting" "talk", "talk", "Sitting.talk", meth 106 4, []⟩, ⟨.set "Sitting" "standing", "standing", "Sitting.standing", meth 106 6, []⟩, ⟨.met "Sitting" "resume", "resume", "Sitting.resume", meth 106 7, []⟩, ⟨.glo "after", "after", "after", top 80, []⟩, ⟨.glo "state_of", "state_of", "state_of", top 81, []⟩, ⟨.glo "_law_state", "_law_state", "_law_state", top 130, []⟩, ⟨.met "Sitting" "__init__", "__init__", "Sitting.__init__", meth 106 0, [V.int 0]⟩]
def cx1 : List DefX := []
def ch1 : Chunk := ⟨cf1, cd1, cx1⟩
def cf2 : List Fb := [.fa (.cls "Guard"), .fa (.noat "Guard" "seat"), .fa (.glo "Guard"), .prop "Guard" "mode", .fa (.noat "Guard" "paid"), .prop "Guard" "spent", .prop "Guard" "lot", .prop "Guard" "talk", .fa (.noat "Guard" "written"), .prop "Guard" "journal", .fa (.noat "Guard" "kept_house"), .fa (.noat "Guard" "most_paid"), .fa (.noat "Guard" "price_rows"), .fa (.mkr "Guard"), .fa (.meth "Guard" "go_on"), .cread "Guard", .cmet "Guard" "resumed", .fa (.glo "_law_shows"), .fa (.glo "over"), .fa (.glo "_law_over"), .fa (.glo "answer_told"), .fa (.meth "Sitting" "ask"), .fa (.glo "BadQuestion"), .fa (.glo "Refused"), .fa (.meth "Guard" "cost"), .fa (.meth "Guard" "ask"), .fa (.glo "_law_call"), .fa (.glo "ReleaseError"), .exm "BadQuestion" "ReleaseError" true, .exm "Refused" "ReleaseError" true, .kit "BadQuestion" "BadQuestion" true, .kit "BadQuestion" "Refused" false, .kit "Refused" "Refused" true, .kit "Refused" "BadQuestion" false, .fa (.glo "_law_asked"), .fa (.glo "_law_is_told"), .fa (.glo "_law_call_drawn"), .fa (.glo "_law_fallen"), .fa (.glo "_law_begins_anew"), .fa (.glo "_law_falls"), .fa (.glo "_law_falls_everywhere"), .fa (.glo "_law_is_paid"), .fa (.glo "_law_begin"), .fa (.glo "law")]
def cd2 : List DefA := [⟨.get "Guard" "mode", "mode", "Guard.mode", meth 108 3, []⟩, ⟨.get "Guard" "spent", "spent", "Guard.spent", meth 108 6, []⟩, ⟨.get "Guard" "lot", "lot", "Guard.lot", meth 108 4, []⟩, ⟨.get "Guard" "talk", "talk", "Guard.talk", meth 108 5, []⟩, ⟨.get "Guard" "journal", "journal", "Guard.journal", meth 108 7, []⟩, ⟨.met "Guard" "__init__", "__init__", "Guard.__init__", meth 108 0, [V.int 0]⟩, ⟨.met "Guard" "go_on", "go_on", "Guard.go_on", meth 108 2, []⟩, ⟨.cm "Guard" "resumed", "resumed", "Guard.resumed", meth 108 1, [V.int 0]⟩, ⟨.glo "_law_shows", "_law_shows", "_law_shows", top 152, []⟩, ⟨.glo "over", "over", "over", top 15, []⟩, ⟨.glo "_law_over", "_law_over", "_law_over", top 121, []⟩, ⟨.glo "answer_told", "answer_told", "answer_told", top 105, []⟩, ⟨.met "Sitting" "ask", "ask", "Sitting.ask", meth 106 9, [V.int 0, V.int 0]⟩, ⟨.met "Guard" "cost", "cost", "Guard.cost", meth 108 8, []⟩, ⟨.met "Guard" "ask", "ask", "Guard.ask", meth 108 9, [V.int 0, V.int 0]⟩, ⟨.glo "_law_call", "_law_call", "_law_call", top 148, []⟩, ⟨.glo "_law_asked", "_law_asked", "_law_asked", top 150, []⟩, ⟨.glo "_law_is_told", "_law_is_told", "_law_is_told", top 151, []⟩, ⟨.glo "_law_call_drawn", "_law_call_drawn", "_law_call_drawn", top 149, []⟩, ⟨.glo "_law_fallen", "_law_fallen", "_law_fallen", top 154, []⟩, ⟨.glo "_law_begins_anew", "_law_begins_anew", "_law_begins_anew", top 155, []⟩, ⟨.glo "_law_falls", "_law_falls", "_law_falls", top 157, []⟩, ⟨.glo "_law_falls_everywhere", "_law_falls_everywhere", "_law_falls_everywhere", top 156, []⟩, ⟨.glo "_law_is_paid", "_law_is_paid", "_law_is_paid", top 158, []⟩, ⟨.glo "_law_begin", "_law_begin", "_law_begin", top 110, []⟩, ⟨.glo "law", "law", "law", top 159, []⟩]
def cx2 : List DefX := [⟨"BadQuestion", "question", "BadQuestion.__init__", meth 8 0, PySem.Challenge.pw_closedratios_k76_whole_journals_cut.main.file⟩, ⟨"Refused", "left", "Refused.__init__", meth 9 0, PySem.Challenge.pw_closedratios_k76_whole_journals_cut.main.file⟩]
def ch2 : Chunk := ⟨cf2, cd2, cx2⟩
def chs : List Chunk := [ch0, ch1, ch2]
noncomputable abbrev W0 (w : World) := HandSHeadRun.wholeF (fun p => HandSHeadRun.stepQ (HandSHeadRun.denQ HandSHeadRun.tabQ) p w) HandSHeadRun.fenceQ 20000 R0.prog
theorem e_la (w : World) : (W0 w).map (fun x => staticsOk (importedModules R0.prog.main.body) x.1.heap x.2.abs.heap && namesBound R0.prog x.2.abs.heap) = some true := by
  kernel_rfl
theorem e_lb (w : World) : (W0 w).map (fun x => gensDone x.2.abs && laidKept x.1.heap x.2.abs.heap) = some true := by
  kernel_rfl
theorem e_seen (w : World) : (W0 w).map (fun x => HandSHeadRun.seenQ Vw looseA (importedModules R0.prog.main.body) (fun s => xlAt Vw [] s && recOk R0.toRowW.records s) x.2.abs) = some (openGood Vw looseA) := by
  kernel_rfl
theorem e_c0 (w : World) : (W0 w).map (fun x => ch0.obs (KL (HandSHeadRun.getT x.2))) = some ch0.val := by
  kernel_rfl
theorem e_c1 (w : World) : (W0 w).map (fun x => ch1.obs (KL (HandSHeadRun.getT x.2))) = some ch1.val := by
  kernel_rfl
theorem e_c2 (w : World) : (W0 w).map (fun x => ch2.obs (KL (HandSHeadRun.getT x.2))) = some ch2.val := by
  kernel_rfl
end CR

set_option Elab.async false
set_option linter.all false
set_option maxRecDepth 100000
set_option maxHeartbeats 4000000
/-! PV1: pure values over HandS: values P (tuples are values), the abstract store M (lists, instances, the draw object by address), readings over them. -/
namespace CR
open PySem PySem.Spec L2

/-! ### pure values -/
inductive P where
  | non | bl (b : Bool) | int (i : Int) | str (x : Str) | tup (xs : List P) | ref (a : Addr)
instance : Inhabited P := ⟨.non⟩
mutual
def IsP (K : PySem.W.Frag) (H : Hp) : P → V → Prop
  | .non, v => v = .non
  | .bl b, v => v = .bl b
  | .int i, v => v = .int i
  | .str x, v => v = .str x
  | .tup ps, v => ∃ a xs, v = .ref a ∧ SqT K H a xs ∧ IsPs K H ps xs
  | .ref a, v => v = .ref a
def IsPs (K : PySem.W.Frag) (H : Hp) : List P → List V → Prop
  | [], vs => vs = []
  | p :: ps, vs => ∃ v r, vs = v :: r ∧ IsP K H p v ∧ IsPs K H ps r
end
section
variable {K : PySem.W.Frag} {H H' : Hp}
theorem IsPs.nil : IsPs K H [] [] := rfl
theorem IsPs.cons {p : P} {v : V} {ps : List P} {vs : List V} (h : IsP K H p v) (t : IsPs K H ps vs) : IsPs K H (p :: ps) (v :: vs) := ⟨v, vs, rfl, h, t⟩
theorem IsPs.nil_inv {vs : List V} (h : IsPs K H [] vs) : vs = [] := h
theorem IsPs.cons_inv {p : P} {ps : List P} {vs : List V} (h : IsPs K H (p :: ps) vs) : ∃ v r, vs = v :: r ∧ IsP K H p v ∧ IsPs K H ps r := h
mutual
theorem IsP.mono (m : ∀ a xs, SqT K H a xs → SqT K H' a xs) : ∀ (p : P) (v : V), IsP K H p v → IsP K H' p v
  | .non, _, h => h
  | .bl _, _, h => h
  | .int _, _, h => h
  | .str _, _, h => h
  | .tup ps, v, h => by
    obtain ⟨a, xs, e, s, r⟩ := h
    exact ⟨a, xs, e, m _ _ s, IsPs.mono m ps xs r⟩
  | .ref _, _, h => h
theorem IsPs.mono (m : ∀ a xs, SqT K H a xs → SqT K H' a xs) : ∀ (ps : List P) (vs : List V), IsPs K H ps vs → IsPs K H' ps vs
  | [], _, h => h
  | p :: ps, vs, h => by
    obtain ⟨v, r, e, h1, h2⟩ := h
    exact ⟨v, r, e, IsP.mono m p v h1, IsPs.mono m ps r h2⟩
end
theorem IsPs.length : ∀ {ps : List P} {vs : List V}, IsPs K H ps vs → vs.length = ps.length
  | [], vs, h => by rw [h.nil_inv]; rfl
  | p :: ps, vs, h => by
    obtain ⟨v, r, rfl, _, h2⟩ := h.cons_inv
    simp [h2.length]
theorem IsPs.get : ∀ {ps : List P} {vs : List V} {i : Nat} {p : P}, IsPs K H ps vs → ps[i]? = some p → ∃ v, vs[i]? = some v ∧ IsP K H p v
  | [], _, _, _, _, e => by simp at e
  | p :: ps, vs, 0, q, h, e => by
    obtain ⟨v, r, rfl, h1, _⟩ := h.cons_inv
    simp at e; subst e
    exact ⟨v, rfl, h1⟩
  | p :: ps, vs, i + 1, q, h, e => by
    obtain ⟨v, r, rfl, _, h2⟩ := h.cons_inv
    obtain ⟨u, e1, e2⟩ := h2.get (i := i) (p := q) (by simpa using e)
    exact ⟨u, by simpa using e1, e2⟩
theorem IsPs.getV : ∀ {ps : List P} {vs : List V} {i : Nat} {v : V}, IsPs K H ps vs → vs[i]? = some v → ∃ p, ps[i]? = some p ∧ IsP K H p v
  | [], vs, _, _, h, e => by rw [h.nil_inv] at e; simp at e
  | p :: ps, vs, 0, q, h, e => by
    obtain ⟨v, r, rfl, h1, _⟩ := h.cons_inv
    simp at e; subst e
    exact ⟨p, rfl, h1⟩
  | p :: ps, vs, i + 1, q, h, e => by
    obtain ⟨v, r, rfl, _, h2⟩ := h.cons_inv
    obtain ⟨u, e1, e2⟩ := h2.getV (i := i) (v := q) (by simpa using e)
    exact ⟨u, by simpa using e1, e2⟩
theorem IsPs.append : ∀ {ps qs : List P} {vs ws : List V}, IsPs K H ps vs → IsPs K H qs ws → IsPs K H (ps ++ qs) (vs ++ ws)
  | [], _, vs, _, h, g => by rw [h.nil_inv]; exact g
  | p :: ps, qs, vs, ws, h, g => by
    obtain ⟨v, r, rfl, h1, h2⟩ := h.cons_inv
    exact IsPs.cons h1 (h2.append g)
theorem IsPs.set {p : P} {v : V} (hv : IsP K H p v) : ∀ {ps : List P} {vs : List V} (i : Nat), IsPs K H ps vs → IsPs K H (ps.set i p) (vs.set i v)
  | [], vs, _, h => by rw [h.nil_inv]; exact IsPs.nil
  | q :: ps, vs, 0, h => by
    obtain ⟨w, r, rfl, _, h2⟩ := h.cons_inv
    exact IsPs.cons hv h2
  | q :: ps, vs, i + 1, h => by
    obtain ⟨w, r, rfl, h1, h2⟩ := h.cons_inv
    exact IsPs.cons h1 (IsPs.set hv i h2)
theorem IsPs.take : ∀ {ps : List P} {vs : List V} (n : Nat), IsPs K H ps vs → IsPs K H (ps.take n) (vs.take n)
  | _, _, 0, _ => IsPs.nil
  | [], vs, n + 1, h => by rw [h.nil_inv]; exact IsPs.nil
  | q :: ps, vs, n + 1, h => by
    obtain ⟨w, r, rfl, h1, h2⟩ := h.cons_inv
    exact IsPs.cons h1 (h2.take n)
theorem IsPs.drop : ∀ {ps : List P} {vs : List V} (n : Nat), IsPs K H ps vs → IsPs K H (ps.drop n) (vs.drop n)
  | _, _, 0, h => h
  | [], vs, n + 1, h => by rw [h.nil_inv]; exact IsPs.nil
  | q :: ps, vs, n + 1, h => by
    obtain ⟨w, r, rfl, _, h2⟩ := h.cons_inv
    exact h2.drop n
theorem IsPs.erase : ∀ {ps : List P} {vs : List V} (n : Nat), IsPs K H ps vs → IsPs K H (ps.eraseIdx n) (vs.eraseIdx n)
  | [], vs, _, h => by rw [h.nil_inv]; exact IsPs.nil
  | q :: ps, vs, 0, h => by
    obtain ⟨w, r, rfl, _, h2⟩ := h.cons_inv
    exact h2
  | q :: ps, vs, n + 1, h => by
    obtain ⟨w, r, rfl, h1, h2⟩ := h.cons_inv
    exact IsPs.cons h1 (h2.erase n)
theorem IsPs.reverse : ∀ {ps : List P} {vs : List V}, IsPs K H ps vs → IsPs K H ps.reverse vs.reverse
  | [], vs, h => by rw [h.nil_inv]; exact IsPs.nil
  | q :: ps, vs, h => by
    obtain ⟨w, r, rfl, h1, h2⟩ := h.cons_inv
    rw [List.reverse_cons, List.reverse_cons]
    exact h2.reverse.append (IsPs.cons h1 IsPs.nil)
theorem IsPs.ints : ∀ {ns : List Int} {vs : List V}, IsPs K H (ns.map P.int) vs → vs = ns.map V.int
  | [], vs, h => h.nil_inv
  | n :: ns, vs, h => by
    obtain ⟨w, r, rfl, h1, h2⟩ := h.cons_inv
    rw [show w = V.int n from h1, h2.ints]; rfl
theorem IsPs.ofInts : ∀ (ns : List Int), IsPs K H (ns.map P.int) (ns.map V.int)
  | [] => IsPs.nil
  | n :: ns => IsPs.cons (p := .int n) rfl (IsPs.ofInts ns)
theorem IsPs.strs : ∀ {ns : List Str} {vs : List V}, IsPs K H (ns.map P.str) vs → vs = ns.map V.str
  | [], vs, h => h.nil_inv
  | n :: ns, vs, h => by
    obtain ⟨w, r, rfl, h1, h2⟩ := h.cons_inv
    rw [show w = V.str n from h1, h2.strs]; rfl
theorem IsPs.ofStrs : ∀ (ns : List Str), IsPs K H (ns.map P.str) (ns.map V.str)
  | [] => IsPs.nil
  | n :: ns => IsPs.cons (p := .str n) rfl (IsPs.ofStrs ns)
theorem IsPs.bls : ∀ {ns : List Bool} {vs : List V}, IsPs K H (ns.map P.bl) vs → vs = ns.map V.bl
  | [], vs, h => h.nil_inv
  | n :: ns, vs, h => by
    obtain ⟨w, r, rfl, h1, h2⟩ := h.cons_inv
    rw [show w = V.bl n from h1, h2.bls]; rfl
end

/-! ### the abstract store -/
/-- a draw object's list of four: the ints, the place, the pool, the state -/
def DrwOk (H : Hp) (a : Addr) (d0 : Addr) : Prop := ∃ (ns : List Int) (p q s : Int), H a = some (.lst [.ref d0, .int p, .int q, .int s]) ∧ H d0 = some (.lst (ns.map V.int)) ∧
  ns.length ≤ 63 ∧ 0 ≤ p ∧ (0 ≤ q ∧ q.natAbs < 2 ^ 6000) ∧ (0 ≤ s ∧ s < 2147483647)
inductive MO where
  | lst (xs : List P) | ins (C dx : Addr) (fs : List (Str × P)) | drw | xd (fs : List (Str × P))
abbrev Mp := Addr → Option MO
def updM (M : Mp) (a : Addr) (o : MO) : Mp := fun b => if b = a then some o else M b
theorem updM_same {M : Mp} {a : Addr} {o : MO} : updM M a o a = some o := by unfold updM; rw [if_pos rfl]
theorem updM_ne {M : Mp} {a b : Addr} {o : MO} (h : b ≠ a) : updM M a o b = M b := by unfold updM; rw [if_neg h]
def FsOk (K : PySem.W.Frag) (H : Hp) : List (Str × P) → List (Str × V) → Prop
  | [], gs => gs = []
  | f :: fs, gs => ∃ v r, gs = (f.1, v) :: r ∧ IsP K H f.2 v ∧ FsOk K H fs r
def MOk (K : PySem.W.Frag) (H : Hp) (M : Mp) (a : Addr) : MO → Prop
  | .lst ps => ∃ xs, H a = some (.lst xs) ∧ IsPs K H ps xs
  | .ins C dx fs => ∃ gs, H a = some (.ins C dx gs) ∧ FsOk K H fs gs
  | .drw => ∃ d0, M d0 = none ∧ DrwOk H a d0
  | .xd fs => ∃ gs, H a = some (.xd gs) ∧ FsOk K H fs gs
def Rep (K : PySem.W.Frag) (H : Hp) (M : Mp) : Prop := ∀ a o, M a = some o → MOk K H M a o
/-- what is not tracked stands, and stays untracked -/
def Ext (H : Hp) (M : Mp) (H' : Hp) (M' : Mp) : Prop := ∀ a o, H a = some o → M a = none → H' a = some o ∧ M' a = none
/-- fewer things are tracked -/
def Le (M M' : Mp) : Prop := ∀ a o, M a = some o → M' a = some o
/-- all but what stands at p -/
def LeX (p : Addr) (M M' : Mp) : Prop := ∀ a o, a ≠ p → M a = some o → M' a = some o
theorem Ext.refl {H : Hp} {M : Mp} : Ext H M H M := fun _ _ h n => ⟨h, n⟩
theorem Ext.trans {H H1 H2 : Hp} {M M1 M2 : Mp} (a : Ext H M H1 M1) (b : Ext H1 M1 H2 M2) : Ext H M H2 M2 := fun c o h n =>
  let ⟨h1, n1⟩ := a c o h n
  b c o h1 n1
theorem Le.refl {M : Mp} : Le M M := fun _ _ h => h
theorem Le.trans {M M1 M2 : Mp} (a : Le M M1) (b : Le M1 M2) : Le M M2 := fun c o h => b c o (a c o h)
theorem Le.x {M M1 M2 : Mp} {p : Addr} (a : Le M M1) (n : M p = none) (b : LeX p M1 M2) : Le M M2 := fun c o h => b c o (fun e => by rw [e, n] at h; cases h) (a c o h)
theorem Le.lx {M M1 : Mp} {p : Addr} (a : Le M M1) : LeX p M M1 := fun c o _ h => a c o h
theorem LeX.refl {M : Mp} {p : Addr} : LeX p M M := fun _ _ _ h => h
theorem LeX.trans {M M1 M2 : Mp} {p : Addr} (a : LeX p M M1) (b : LeX p M1 M2) : LeX p M M2 := fun c o e h => b c o e (a c o e h)
theorem LeX.le {M M1 M2 : Mp} {p : Addr} (a : LeX p M M1) (b : Le M1 M2) : LeX p M M2 := fun c o e h => b c o (a c o e h)
theorem Le.upd {M : Mp} {a : Addr} {o : MO} (n : M a = none) : Le M (updM M a o) := fun b u h => by
  rw [updM_ne (fun e => by rw [e, n] at h; cases h)]
  exact h
theorem LeX.upd {M : Mp} {a : Addr} {o : MO} : LeX a M (updM M a o) := fun b u e h => by rw [updM_ne e]; exact h
theorem neM {M : Mp} {a b : Addr} {o : MO} (h : M a = some o) (n : M b = none) : a ≠ b := fun e => by rw [e, n] at h; cases h
theorem neM' {M : Mp} {a b : Addr} {o : MO} (n : M a = none) (h : M b = some o) : a ≠ b := fun e => by rw [e, h] at n; cases n
theorem Ext.less {H H' : Hp} {M M' M'' : Mp} (a : Ext H M H' M') (l : Le M'' M') : Ext H M H' M'' := fun c o h n => by
  obtain ⟨h1, n1⟩ := a c o h n
  refine ⟨h1, ?_⟩
  cases e : M'' c with
  | none => rfl
  | some u => rw [l c u e] at n1; cases n1
section
variable {K : PySem.W.Frag} {H H' : Hp} {M M' : Mp}
theorem MOk.notTup {a : Addr} {o : MO} (h : MOk K H M a o) {u : HO} (hu : H a = some u) : (∃ xs, u = .lst xs) ∨ (∃ C dx gs, u = .ins C dx gs) ∨ ∃ gs, u = .xd gs := by
  cases o with
  | lst ps => obtain ⟨xs, e, _⟩ := h; rw [e] at hu; exact .inl ⟨xs, (Option.some.inj hu).symm⟩
  | ins C dx fs => obtain ⟨gs, e, _⟩ := h; rw [e] at hu; exact .inr (.inl ⟨C, dx, gs, (Option.some.inj hu).symm⟩)
  | drw => obtain ⟨d0, _, ns, p, q, s, e, _⟩ := h; rw [e] at hu; exact .inl ⟨_, (Option.some.inj hu).symm⟩
  | xd fs => obtain ⟨gs, e, _⟩ := h; rw [e] at hu; exact .inr (.inr ⟨gs, (Option.some.inj hu).symm⟩)
theorem Rep.free (R : Rep K H M) {a : Addr} {u : HO} (hu : H a = some u) (h1 : ∀ xs, u ≠ .lst xs) (h2 : ∀ C dx gs, u ≠ .ins C dx gs) (h3 : ∀ gs, u ≠ .xd gs := by exact fun _ => by simp) : M a = none := by
  cases e : M a with
  | none => rfl
  | some o =>
    rcases (R a o e).notTup hu with ⟨xs, q⟩ | ⟨C, dx, gs, q⟩ | ⟨gs, q⟩
    · exact absurd q (h1 xs)
    · exact absurd q (h2 C dx gs)
    · exact absurd q (h3 gs)
theorem Rep.there (R : Rep K H M) {a : Addr} {o : MO} (h : M a = some o) : ∃ u, H a = some u := by
  have q := R a o h
  cases o with
  | lst ps => obtain ⟨xs, e, _⟩ := q; exact ⟨_, e⟩
  | ins C dx fs => obtain ⟨gs, e, _⟩ := q; exact ⟨_, e⟩
  | drw => obtain ⟨d0, _, ns, p, q, s, e, _⟩ := q; exact ⟨_, e⟩
  | xd fs => obtain ⟨gs, e, _⟩ := q; exact ⟨_, e⟩
theorem Rep.none (R : Rep K H M) {a : Addr} (h : H a = none) : M a = none := by
  cases e : M a with
  | none => rfl
  | some o =>
    obtain ⟨u, hu⟩ := R.there e
    rw [h] at hu; cases hu
theorem Rep.sqT (R : Rep K H M) (E : Ext H M H' M') : ∀ a xs, SqT K H a xs → SqT K H' a xs := by
  rintro a xs (h | h)
  · rcases h with h | ⟨o, h⟩
    · exact .inl (.inl (E a _ h (R.free h (fun _ => by simp) fun _ _ _ => by simp)).1)
    · exact .inl (.inr ⟨o, (E a _ h (R.free h (fun _ => by simp) fun _ _ _ => by simp)).1⟩)
  · exact .inr h
theorem Rep.isP (R : Rep K H M) (E : Ext H M H' M') {p : P} {v : V} (h : IsP K H p v) : IsP K H' p v := IsP.mono (R.sqT E) p v h
theorem Rep.isPs (R : Rep K H M) (E : Ext H M H' M') {ps : List P} {vs : List V} (h : IsPs K H ps vs) : IsPs K H' ps vs := IsPs.mono (R.sqT E) ps vs h
theorem FsOk.mono (m : ∀ a xs, SqT K H a xs → SqT K H' a xs) : ∀ {fs : List (Str × P)} {gs : List (Str × V)}, FsOk K H fs gs → FsOk K H' fs gs
  | [], _, h => h
  | f :: fs, gs, h => by
    obtain ⟨v, r, e, h1, h2⟩ := h
    exact ⟨v, r, e, IsP.mono m _ _ h1, FsOk.mono m h2⟩
/-- fewer things -/
theorem Rep.less (R : Rep K H M') (l : Le M M') : Rep K H M := fun a o h => by
  have q := R a o (l a o h)
  cases o with
  | lst ps => exact q
  | ins C dx fs => exact q
  | xd fs => exact q
  | drw =>
    obtain ⟨d0, n, r⟩ := q
    refine ⟨d0, ?_, r⟩
    cases e : M d0 with
    | none => rfl
    | some u => rw [l d0 u e] at n; cases n
/-- the heap grows by a thing -/
theorem Ext.new {a : Addr} {o : HO} (n : H a = Option.none) : Ext H M (upd H a o) M := fun b u h m => ⟨by rw [upd_ne (ne_of_none h n)]; exact h, m⟩
theorem Ext.newM {a : Addr} {o : HO} {m : MO} (n : H a = Option.none) : Ext H M (upd H a o) (updM M a m) := fun b u h k => ⟨by rw [upd_ne (ne_of_none h n)]; exact h, by rw [updM_ne (ne_of_none h n)]; exact k⟩
theorem Ext.write {a : Addr} {o : HO} {m m' : MO} (n : M a = some m) : Ext H M (upd H a o) (updM M a m') := fun b u h k => by
  have e : b ≠ a := fun e => by rw [e, n] at k; cases k
  exact ⟨by rw [upd_ne e]; exact h, by rw [updM_ne e]; exact k⟩
theorem MOk.keep {a : Addr} {o : MO} (R : Rep K H M) (E : Ext H M H' M') (h : M a = some o) (e : ∀ u, H a = some u → H' a = some u) : MOk K H' M' a o := by
  have q := R a o h
  cases o with
  | lst ps => obtain ⟨xs, h1, h2⟩ := q; exact ⟨xs, e _ h1, R.isPs E h2⟩
  | ins C dx fs => obtain ⟨gs, h1, h2⟩ := q; exact ⟨gs, e _ h1, FsOk.mono (R.sqT E) h2⟩
  | xd fs => obtain ⟨gs, h1, h2⟩ := q; exact ⟨gs, e _ h1, FsOk.mono (R.sqT E) h2⟩
  | drw =>
    obtain ⟨d0, n, ns, p, q, s, h1, h2, r⟩ := q
    obtain ⟨h3, h4⟩ := E d0 _ h2 n
    exact ⟨d0, h4, ns, p, q, s, e _ h1, h3, r⟩
theorem Rep.new (R : Rep K H M) {a : Addr} {o : HO} (n : H a = Option.none) : Rep K (upd H a o) M := fun b u h =>
  MOk.keep R (Ext.new n) h fun z hz => by rw [upd_ne (ne_of_none hz n)]; exact hz
theorem Rep.newM (R : Rep K H M) {a : Addr} {o : HO} {m : MO} (n : H a = Option.none) (q : MOk K (upd H a o) (updM M a m) a m) : Rep K (upd H a o) (updM M a m) := fun b u h => by
  by_cases e : b = a
  · subst e
    rw [updM_same] at h; cases h; exact q
  · rw [updM_ne e] at h
    exact MOk.keep R (Ext.newM n) h fun z hz => by rw [upd_ne e]; exact hz
theorem Rep.write (R : Rep K H M) {a : Addr} {o : HO} {m m' : MO} (n : M a = some m) (q : MOk K (upd H a o) (updM M a m') a m') : Rep K (upd H a o) (updM M a m') := fun b u h => by
  by_cases e : b = a
  · subst e
    rw [updM_same] at h; cases h; exact q
  · rw [updM_ne e] at h
    exact MOk.keep R (Ext.write n) h fun z hz => by rw [upd_ne e]; exact hz
end

/-! ### slots -/
abbrev PSt := List (Option P)
def nth : PSt → Nat → Option P
  | [], _ => none
  | x :: _, 0 => x
  | _ :: r, n + 1 => nth r n
def setS : PSt → Nat → P → PSt
  | [], _, _ => []
  | _ :: r, 0, p => some p :: r
  | x :: r, n + 1, p => x :: setS r n p
def clrS : PSt → Nat → PSt
  | [], _ => []
  | _ :: r, 0 => none :: r
  | x :: r, n + 1 => x :: clrS r n
def wipeS (ρ : PSt) : List Nat → PSt
  | [] => ρ
  | v :: vs => clrS (wipeS ρ vs) v
theorem setS_length : ∀ (ρ : PSt) (i : Nat) (p : P), (setS ρ i p).length = ρ.length
  | [], _, _ => rfl
  | _ :: _, 0, _ => rfl
  | _ :: r, i + 1, p => by simp [setS, setS_length r i p]
theorem clrS_length : ∀ (ρ : PSt) (i : Nat), (clrS ρ i).length = ρ.length
  | [], _ => rfl
  | _ :: _, 0 => rfl
  | _ :: r, i + 1 => by simp [clrS, clrS_length r i]
theorem nth_setS : ∀ (ρ : PSt) (i j : Nat) (p q : P), nth (setS ρ i p) j = some q → (j = i ∧ q = p) ∨ (j ≠ i ∧ nth ρ j = some q)
  | [], _, _, _, _, h => by cases h
  | x :: r, 0, 0, p, q, h => .inl ⟨rfl, (Option.some.inj (show some p = some q from h)).symm⟩
  | x :: r, 0, j + 1, p, q, h => .inr ⟨by omega, h⟩
  | x :: r, i + 1, 0, p, q, h => .inr ⟨by omega, h⟩
  | x :: r, i + 1, j + 1, p, q, h => by
    rcases nth_setS r i j p q h with ⟨e, z⟩ | ⟨e, z⟩
    · exact .inl ⟨by omega, z⟩
    · exact .inr ⟨by omega, z⟩
theorem nth_clrS : ∀ (ρ : PSt) (i j : Nat) (q : P), nth (clrS ρ i) j = some q → j ≠ i ∧ nth ρ j = some q
  | [], _, _, _, h => by cases h
  | x :: r, 0, 0, q, h => by cases h
  | x :: r, 0, j + 1, q, h => ⟨by omega, h⟩
  | x :: r, i + 1, 0, q, h => ⟨by omega, h⟩
  | x :: r, i + 1, j + 1, q, h => by
    obtain ⟨e, z⟩ := nth_clrS r i j q h
    exact ⟨by omega, z⟩
theorem nth_lt : ∀ (ρ : PSt) (i : Nat) (q : P), nth ρ i = some q → i < ρ.length
  | [], _, _, h => by cases h
  | _ :: _, 0, _, _ => by simp
  | _ :: r, i + 1, q, h => by
    have := nth_lt r i q h
    simp; omega
/-- the slots stand for pure values -/
def IsS (K : PySem.W.Frag) (H : Hp) (σ : St) (ρ : PSt) : Prop := σ.length = ρ.length ∧ ∀ i p, nth ρ i = some p → ∃ v, σ[i]? = some (some v) ∧ IsP K H p v
section
variable {K : PySem.W.Frag} {H H' : Hp} {M M' : Mp} {σ : St} {ρ : PSt}
theorem IsS.ext (h : IsS K H σ ρ) (R : Rep K H M) (E : Ext H M H' M') : IsS K H' σ ρ := ⟨h.1, fun i p e => by
  obtain ⟨v, e1, e2⟩ := h.2 i p e
  exact ⟨v, e1, R.isP E e2⟩⟩
theorem IsS.set (h : IsS K H σ ρ) {i : Nat} {p : P} {v : V} (hv : IsP K H p v) : IsS K H (σ.set i (some v)) (setS ρ i p) := ⟨by rw [List.length_set, setS_length]; exact h.1, fun j q e => by
  rcases nth_setS ρ i j p q e with ⟨rfl, rfl⟩ | ⟨ne, z⟩
  · refine ⟨v, ?_, hv⟩
    have l := nth_lt _ _ _ e
    rw [setS_length, ← h.1] at l
    exact List.getElem?_set_self l
  · obtain ⟨u, e1, e2⟩ := h.2 j q z
    exact ⟨u, by rw [List.getElem?_set_ne (fun z => ne z.symm)]; exact e1, e2⟩⟩
theorem IsS.clr (h : IsS K H σ ρ) {i : Nat} : IsS K H (σ.set i none) (clrS ρ i) := ⟨by rw [List.length_set, clrS_length]; exact h.1, fun j q e => by
  obtain ⟨ne, z⟩ := nth_clrS ρ i j q e
  obtain ⟨u, e1, e2⟩ := h.2 j q z
  exact ⟨u, by rw [List.getElem?_set_ne (fun z => ne z.symm)]; exact e1, e2⟩⟩
theorem IsS.wipe (h : IsS K H σ ρ) : ∀ vs : List Nat, IsS K H (wipe σ vs) (wipeS ρ vs)
  | [] => h
  | v :: vs => by
    show IsS K H ((L2.wipe σ vs).set v none) (clrS (wipeS ρ vs) v)
    exact (h.wipe vs).clr
/-- forget slots -/
def SLe (ρ ρ' : PSt) : Prop := ρ.length = ρ'.length ∧ ∀ i p, nth ρ i = some p → nth ρ' i = some p
theorem IsS.less {ρ' : PSt} (h : IsS K H σ ρ') (l : SLe ρ ρ') : IsS K H σ ρ := ⟨h.1.trans l.1.symm, fun i p e => h.2 i p (l.2 i p e)⟩
end
end CR

set_option Elab.async false
set_option linter.all false
set_option maxRecDepth 100000
set_option maxHeartbeats 4000000
/-! PV2: the judgements over pure values, and the rules of expressions, tests, statements. -/
namespace CR
open PySem PySem.Spec L2

abbrev KE := P → Mp → Prop
abbrev FE := PSt → Mp → KE → Prop
abbrev FT := PSt → Mp → (Mp → Prop) → (Mp → Prop) → Prop
abbrev FA := PSt → Mp → (List P → Mp → Prop) → Prop
structure PEnds where
  nx : PSt → Mp → Prop
  rt : KE
  bk : PSt → Mp → Prop := fun _ _ => False
  ct : PSt → Mp → Prop := fun _ _ => False
abbrev FS := PEnds → PSt → Mp → Prop
abbrev FG := P → PSt → Mp → (PSt → Mp → Prop) → Prop

/-- the end of an expression -/
def Lk (K : PySem.W.Frag) (H : Hp) (M : Mp) (Q : VK) (Qp : KE) : Prop := ∀ v H' p M', Ext H M H' M' → Rep K H' M' → IsP K H' p v → Qp p M' → Q v H'
def LkN (K : PySem.W.Frag) (H : Hp) (M : Mp) (Q : L2.St → Hp → Prop) (Qp : PSt → Mp → Prop) : Prop := ∀ σ' H' ρ' M', Ext H M H' M' → Rep K H' M' → IsS K H' σ' ρ' → Qp ρ' M' → Q σ' H'
structure LkS (K : PySem.W.Frag) (H : Hp) (M : Mp) (D : Ends) (Dp : PEnds) : Prop where
  nx : LkN K H M D.nx Dp.nx
  rt : Lk K H M D.rt Dp.rt
  bk : LkN K H M D.bk Dp.bk
  ct : LkN K H M D.ct Dp.ct
def AE (K : PySem.W.Frag) (t : TE) (f : FE) : Prop := ∀ (σ : L2.St) (H : Hp) (ρ : PSt) (M : Mp) (Q : VK) (Qp : KE), IsS K H σ ρ → Rep K H M → f ρ M Qp → Lk K H M Q Qp → t σ H Q
def AT (K : PySem.W.Frag) (t : TT) (f : FT) : Prop := ∀ (σ : L2.St) (H : Hp) (ρ : PSt) (M : Mp) (Q : Bool → Hp → Prop) (T F : Mp → Prop), IsS K H σ ρ → Rep K H M → f ρ M T F →
  (∀ H' M', Ext H M H' M' → Rep K H' M' → T M' → Q true H') → (∀ H' M', Ext H M H' M' → Rep K H' M' → F M' → Q false H') → t σ H Q
def AA (K : PySem.W.Frag) (t : TA) (f : FA) : Prop := ∀ (σ : L2.St) (H : Hp) (ρ : PSt) (M : Mp) (Q : List V → Hp → Prop) (Qp : List P → Mp → Prop), IsS K H σ ρ → Rep K H M → f ρ M Qp →
  (∀ vs H' ps M', Ext H M H' M' → Rep K H' M' → IsPs K H' ps vs → Qp ps M' → Q vs H') → t σ H Q
def AS (K : PySem.W.Frag) (t : TS) (f : FS) : Prop := ∀ (D : Ends) (Dp : PEnds) (σ : L2.St) (H : Hp) (ρ : PSt) (M : Mp), IsS K H σ ρ → Rep K H M → f Dp ρ M → LkS K H M D Dp → t D σ H
def AG (K : PySem.W.Frag) (t : TG) (f : FG) : Prop := ∀ (v : V) (p : P) (σ : L2.St) (H : Hp) (ρ : PSt) (M : Mp) (Q : L2.St → Hp → Prop) (Qp : PSt → Mp → Prop), IsP K H p v → IsS K H σ ρ → Rep K H M → f p ρ M Qp →
  LkN K H M Q Qp → t v σ H Q
structure QE (X : Cx) (e : Expr) (t : TE) (f : FE) : Prop where
  p : PE X e t
  a : AE X.K t f
structure QT (X : Cx) (e : Expr) (t : TT) (f : FT) : Prop where
  p : PT X e t
  a : AT X.K t f
structure QW (X : Cx) (e : Expr) (t : TT) (f : FT) : Prop where
  p : PW X e t
  a : AT X.K t f
structure QA (X : Cx) (es : List Expr) (t : TA) (f : FA) : Prop where
  p : PA X es t
  a : AA X.K t f
structure QS (X : Cx) (st : Stmt) (t : TS) (f : FS) : Prop where
  p : PS X st t
  a : AS X.K t f
structure QSs (X : Cx) (st : List Stmt) (t : TS) (f : FS) : Prop where
  p : PSs X st t
  a : AS X.K t f
structure QG (X : Cx) (e : Expr) (t : TG) (f : FG) : Prop where
  p : PG X e t
  a : AG X.K t f
structure QGs (X : Cx) (es : List Expr) (t : TGs) (f : List P → PSt → Mp → (PSt → Mp → Prop) → Prop) : Prop where
  p : PGs X es t
  a : ∀ (vs : List V) (ps : List P) (σ : L2.St) (H : Hp) (ρ : PSt) (M : Mp) (Q : L2.St → Hp → Prop) (Qp : PSt → Mp → Prop), IsPs X.K H ps vs → IsS X.K H σ ρ → Rep X.K H M → f ps ρ M Qp → LkN X.K H M Q Qp → t vs σ H Q
theorem QW.t {X : Cx} {e : Expr} {t : TT} {f : FT} (h : QW X e t f) : QT X e t f := ⟨h.p.pt, h.a⟩
section
variable {K : PySem.W.Frag} {H H1 H2 : Hp} {M M1 M2 : Mp}
theorem Lk.ext {Q : VK} {Qp : KE} (l : Lk K H M Q Qp) (E : Ext H M H1 M1) : Lk K H1 M1 Q Qp := fun v H' p M' e r i q => l v H' p M' (E.trans e) r i q
theorem LkN.ext {Q : L2.St → Hp → Prop} {Qp : PSt → Mp → Prop} (l : LkN K H M Q Qp) (E : Ext H M H1 M1) : LkN K H1 M1 Q Qp := fun v H' p M' e r i q => l v H' p M' (E.trans e) r i q
theorem LkS.ext {D : Ends} {Dp : PEnds} (l : LkS K H M D Dp) (E : Ext H M H1 M1) : LkS K H1 M1 D Dp := ⟨l.nx.ext E, l.rt.ext E, l.bk.ext E, l.ct.ext E⟩
theorem Lk.at {Q : VK} {Qp : KE} (l : Lk K H M Q Qp) (R : Rep K H M) {p : P} {v : V} (q : Qp p M) (i : IsP K H p v) : Q v H := l v H p M Ext.refl R i q
/-- an end at a new thing of the heap that is not tracked -/
theorem Lk.new {Q : VK} {Qp : KE} (l : Lk K H M Q Qp) (R : Rep K H M) {a : Addr} {o : HO} (n : H a = none) {p : P} {v : V} (q : Qp p M) (i : IsP K (upd H a o) p v) : Q v (upd H a o) := l v _ p M (Ext.new n) (R.new n) i q
/-- an end at a new thing that is tracked -/
theorem Lk.newM {Q : VK} {Qp : KE} (l : Lk K H M Q Qp) (R : Rep K H M) {a : Addr} {o : HO} {m : MO} (n : H a = none) (k : MOk K (upd H a o) (updM M a m) a m) {p : P} {v : V} (q : Qp p (updM M a m)) (i : IsP K (upd H a o) p v) : Q v (upd H a o) :=
  l v _ p _ (Ext.newM n) (R.newM n k) i q
theorem Lk.write {Q : VK} {Qp : KE} (l : Lk K H M Q Qp) (R : Rep K H M) {a : Addr} {o : HO} {m m' : MO} (n : M a = some m) (k : MOk K (upd H a o) (updM M a m') a m') {p : P} {v : V} (q : Qp p (updM M a m')) (i : IsP K (upd H a o) p v) : Q v (upd H a o) :=
  l v _ p _ (Ext.write n) (R.write n k) i q
end

/-! ### names and constants -/
def fVar (i : Nat) : FE := fun ρ M Q => match nth ρ i with
  | some p => Q p M
  | none => False
def fC (p : P) : FE := fun _ M Q => Q p M
section
variable {X : Cx} {a b c e : Expr} {ta tb tc te : TE} {fa fb fc fe : FE} {pos : Pos}
theorem qe_var {i : Nat} {x : Str} (hN : X.N[i]? = some x) (hv : Vis X.env.scope x) (hd : (x == ("__debug__" : Str)) = false := by decide) (hcd : (x == ("__classdict__" : Str)) = false := by decide) : QE X (.Name x pos) (tVar i) (fVar i) :=
  ⟨pe_var hN hv hd hcd, fun σ H ρ M Q Qp s R h l => by
    unfold fVar at h
    cases e : nth ρ i with
    | none => rw [e] at h; exact h.elim
    | some p =>
      rw [e] at h
      obtain ⟨v, e1, e2⟩ := s.2 i p e
      exact ⟨v, e1, l.at R h e2⟩⟩
theorem ae_c {v : V} {p : P} (h : ∀ H, IsP X.K H p v) : AE X.K (tC v) (fC p) := fun σ H ρ M Q Qp s R q l => l.at R q (h H)
theorem qe_int {i j pos} : QE X (.Constant (.int i) j pos) (tC (.int i)) (fC (.int i)) := ⟨pe_int, ae_c fun _ => rfl⟩
theorem qe_bl {b j pos} : QE X (.Constant (.bool b) j pos) (tC (.bl b)) (fC (.bl b)) := ⟨pe_bl, ae_c fun _ => rfl⟩
theorem qe_non {j pos} : QE X (.Constant .none j pos) (tC .non) (fC .non) := ⟨pe_non, ae_c fun _ => rfl⟩
theorem qe_str {x j pos} : QE X (.Constant (.str x) j pos) (tC (.str x)) (fC (.str x)) := ⟨pe_str, ae_c fun _ => rfl⟩
theorem qe_glob {x : Str} {v : V} {u : Value} {p : P} (hg : Gl X x) (hm : X.mg x = some u) (r : RelV v u) (h : ∀ H, IsP X.K H p v) (hd : (x == ("__debug__" : Str)) = false := by decide) : QE X (.Name x pos) (tC v) (fC p) := ⟨pe_glob hg hm r hd, ae_c h⟩

/-! ### operators -/
abbrev R2P := P → P → Mp → KE → Prop
def AR2 (K : PySem.W.Frag) (r : R2) (rp : R2P) : Prop := ∀ (x y : V) (p q : P) (H : Hp) (M : Mp) (Q : VK) (Qp : KE), IsP K H p x → IsP K H q y → Rep K H M → rp p q M Qp → Lk K H M Q Qp → r x y H Q
def fOp (rp : R2P) (fa fb : FE) : FE := fun ρ M Q => fa ρ M fun x M1 => fb ρ M1 fun y M2 => rp x y M2 Q
theorem ae_op {r : R2} {rp : R2P} (h : AR2 X.K r rp) (ha : AE X.K ta fa) (hb : AE X.K tb fb) : AE X.K (tOp r ta tb) (fOp rp fa fb) := fun σ H ρ M Q Qp s R q l =>
  ha σ H ρ M _ _ s R q fun x H1 p M1 e1 r1 i1 q1 => hb σ H1 ρ M1 _ _ (s.ext R e1) r1 q1 fun y H2 p2 M2 e2 r2 i2 q2 =>
    h x y p p2 H2 M2 Q Qp (r1.isP e2 i1) i2 r2 q2 ((l.ext e1).ext e2)
theorem qe_op {op : Operator} {r : R2} {rp : R2P} (ho : OpR X (binaryOp op) r) (h : AR2 X.K r rp) (ha : QE X a ta fa) (hb : QE X b tb fb) : QE X (.BinOp a op b pos) (tOp r ta tb) (fOp rp fa fb) := ⟨pe_op ho ha.p hb.p, ae_op h ha.a hb.a⟩
theorem qe_cmp {op : CmpOp} {r : R2} {rp : R2P} (ho : OpR X (compareOp op) r) (h : AR2 X.K r rp) (ha : QE X a ta fa) (hb : QE X b tb fb) (hm : behindInMarks op b = false) : QE X (.Compare a [op] [b] pos) (tOp r ta tb) (fOp rp fa fb) := ⟨pe_cmpR ho ha.p hb.p hm, ae_op h ha.a hb.a⟩
/-- ints in, a value out -/
def pI (C : Int → Int → Prop) (g : Int → Int → P) : R2P := fun p q M Q => match p, q with
  | .int i, .int j => C i j ∧ Q (g i j) M
  | _, _ => False
def pI0 (g : Int → Int → P) : R2P := fun p q M Q => match p, q with
  | .int i, .int j => Q (g i j) M
  | _, _ => False
theorem ar_I {C : Int → Int → Prop} {g : Int → Int → V} {gp : Int → Int → P} {K : PySem.W.Frag} (hg : ∀ i j H, IsP K H (gp i j) (g i j)) : AR2 K (rI C g) (pI C gp) := fun x y p q H M Q Qp hx hy R h l => by
  cases p <;> cases q <;> first
    | exact h.elim
    | exact ⟨_, _, hx, hy, h.1, l.at R h.2 (hg _ _ _)⟩
theorem ar_I0 {g : Int → Int → V} {gp : Int → Int → P} {K : PySem.W.Frag} (hg : ∀ i j H, IsP K H (gp i j) (g i j)) : AR2 K (rI0 g) (pI0 gp) := fun x y p q H M Q Qp hx hy R h l => by
  cases p <;> cases q <;> first
    | exact h.elim
    | exact ⟨_, _, hx, hy, l.at R h (hg _ _ _)⟩
/-- * with one small factor, or of less than a million bits together -/
def CMX (i j : Int) : Prop := CMul i j ∨ CMulW i j
theorem op_mulX : OpR X (binaryOp .Mult) (rI CMX fun i j => .int (i * j)) := opI fun _ _ _ _ _ _ _ hc q => PyProof.Rows.mul_int q (hc.elim (fun h => h.ok) fun h => h.ok)
theorem cmx_l {i j : Int} (h0 : -(2 ^ 64) < i) (h1 : i < 2 ^ 64) : CMX i j := .inl (.inl ⟨h0, h1⟩)
theorem cmx_r {i j : Int} (h0 : -(2 ^ 64) < j) (h1 : j < 2 ^ 64) : CMX i j := .inl (.inr ⟨h0, h1⟩)
theorem cmx_w {i j : Int} {a b : Nat} (ha : i.natAbs < 2 ^ a) (hb : j.natAbs < 2 ^ b) (h0 : 0 < a) (h1 : 0 < b) (h : a + b ≤ 1000000) : CMX i j := .inr (wide_mul ha hb h0 h1 h)
def qe_add (ha : QE X a ta fa) (hb : QE X b tb fb) := qe_op (pos := pos) op_add (ar_I0 (gp := fun i j => .int (i + j)) fun _ _ _ => rfl) ha hb
def qe_sub (ha : QE X a ta fa) (hb : QE X b tb fb) := qe_op (pos := pos) op_sub (ar_I0 (gp := fun i j => .int (i - j)) fun _ _ _ => rfl) ha hb
def qe_mul (ha : QE X a ta fa) (hb : QE X b tb fb) := qe_op (pos := pos) op_mulX (ar_I (gp := fun i j => .int (i * j)) fun _ _ _ => rfl) ha hb
def qe_fdiv (ha : QE X a ta fa) (hb : QE X b tb fb) := qe_op (pos := pos) op_fdivW (ar_I (gp := fun i j => .int (i / j)) fun _ _ _ => rfl) ha hb
def qe_mod (ha : QE X a ta fa) (hb : QE X b tb fb) := qe_op (pos := pos) op_mod (ar_I (gp := fun i j => .int (i % j)) fun _ _ _ => rfl) ha hb
def qe_pow (ha : QE X a ta fa) (hb : QE X b tb fb) := qe_op (pos := pos) op_pow (ar_I (gp := fun i j => .int (i ^ j.toNat)) fun _ _ _ => rfl) ha hb
def qe_shl (ha : QE X a ta fa) (hb : QE X b tb fb) := qe_op (pos := pos) op_shl (ar_I (gp := fun i j => .int (i * 2 ^ j.toNat)) fun _ _ _ => rfl) ha hb
def qe_lt (ha : QE X a ta fa) (hb : QE X b tb fb) := qe_cmp (pos := pos) op_lt (ar_I0 (gp := fun i j => .bl (decide (i < j))) fun _ _ _ => rfl) ha hb (nomark _)
def qe_le (ha : QE X a ta fa) (hb : QE X b tb fb) := qe_cmp (pos := pos) op_le (ar_I0 (gp := fun i j => .bl (decide (i ≤ j))) fun _ _ _ => rfl) ha hb (nomark _)
def qe_gt (ha : QE X a ta fa) (hb : QE X b tb fb) := qe_cmp (pos := pos) op_gt (ar_I0 (gp := fun i j => .bl (decide (j < i))) fun _ _ _ => rfl) ha hb (nomark _)
def qe_ge (ha : QE X a ta fa) (hb : QE X b tb fb) := qe_cmp (pos := pos) op_ge (ar_I0 (gp := fun i j => .bl (decide (j ≤ i))) fun _ _ _ => rfl) ha hb (nomark _)
/-- == of scalars of one kind -/
def pEq : R2P := fun p q M Q => match p, q with
  | .int i, .int j => Q (.bl (decide (i = j))) M
  | .str i, .str j => Q (.bl (decide (i = j))) M
  | .bl i, .bl j => Q (.bl (decide (i = j))) M
  | _, _ => False
def pNe : R2P := fun p q M Q => match p, q with
  | .int i, .int j => Q (.bl (!decide (i = j))) M
  | .str i, .str j => Q (.bl (!decide (i = j))) M
  | .bl i, .bl j => Q (.bl (!decide (i = j))) M
  | _, _ => False
theorem dec_int (i j : Int) : decide (V.int i = V.int j) = decide (i = j) := by
  by_cases e : i = j
  · subst e; simp
  · rw [decide_eq_false e, decide_eq_false (fun z => e (V.int.inj z))]
theorem dec_str (i j : Str) : decide (V.str i = V.str j) = decide (i = j) := by
  by_cases e : i = j
  · subst e; simp
  · rw [decide_eq_false e, decide_eq_false (fun z => e (V.str.inj z))]
theorem dec_bl (i j : Bool) : decide (V.bl i = V.bl j) = decide (i = j) := by
  cases i <;> cases j <;> rfl
theorem ar_eq {K : PySem.W.Frag} : AR2 K rEq pEq := fun x y p q H M Q Qp hx hy R h l => by
  cases p <;> cases q <;> first
    | exact h.elim
    | (cases hx; cases hy; refine ⟨rfl, ?_⟩
       first | rw [dec_int] | rw [dec_str] | rw [dec_bl]
       exact l.at R h rfl)
theorem ar_ne {K : PySem.W.Frag} : AR2 K rNe pNe := fun x y p q H M Q Qp hx hy R h l => by
  cases p <;> cases q <;> first
    | exact h.elim
    | (cases hx; cases hy; refine ⟨rfl, ?_⟩
       first | rw [dec_int] | rw [dec_str] | rw [dec_bl]
       exact l.at R h rfl)
def qe_eq (ha : QE X a ta fa) (hb : QE X b tb fb) := qe_cmp (pos := pos) op_eq (ar_eq (K := X.K)) ha hb (nomark _)
def qe_ne (ha : QE X a ta fa) (hb : QE X b tb fb) := qe_cmp (pos := pos) op_ne (ar_ne (K := X.K)) ha hb (nomark _)
/-- is None, is not None -/
def isNonP : P → Bool
  | .non => true
  | _ => false
def pIsN : R2P := fun p q M Q => match q with
  | .non => Q (.bl (isNonP p)) M
  | _ => False
def pNotN : R2P := fun p q M Q => match q with
  | .non => Q (.bl (!isNonP p)) M
  | _ => False
theorem isNon_dec {K : PySem.W.Frag} {H : Hp} {p : P} {x : V} (h : IsP K H p x) : decide (x = V.non) = isNonP p := by
  cases p with
  | non => rw [show x = V.non from h]; rfl
  | tup ps => obtain ⟨a, xs, e, _⟩ := h; rw [e]; rfl
  | _ => rw [h]; rfl
theorem ar_isN {K : PySem.W.Frag} : AR2 K (fun x y H Q => y = .non ∧ Q (.bl (decide (x = .non))) H) pIsN := fun x y p q H M Q Qp hx hy R h l => by
  cases q <;> first
    | exact h.elim
    | (refine ⟨hy, ?_⟩; rw [isNon_dec hx]; exact l.at R h rfl)
theorem ar_notN {K : PySem.W.Frag} : AR2 K (fun x y H Q => y = .non ∧ Q (.bl (!decide (x = .non))) H) pNotN := fun x y p q H M Q Qp hx hy R h l => by
  cases q <;> first
    | exact h.elim
    | (refine ⟨hy, ?_⟩; rw [isNon_dec hx]; exact l.at R h rfl)
def qe_isN (ha : QE X a ta fa) (hb : QE X b tb fb) := qe_cmp (pos := pos) op_isN (ar_isN (K := X.K)) ha hb (nomark _)
def qe_notN (ha : QE X a ta fa) (hb : QE X b tb fb) := qe_cmp (pos := pos) op_notN (ar_notN (K := X.K)) ha hb (nomark _)
/-- a + b of texts -/
def pAddS : R2P := fun p q M Q => match p, q with
  | .str i, .str j => i.length + j.length ≤ sizeLine ∧ Q (.str (i ++ j)) M
  | _, _ => False
theorem ar_addS {K : PySem.W.Frag} : AR2 K (fun x y H Q => ∃ i j, x = .str i ∧ y = .str j ∧ i.length + j.length ≤ sizeLine ∧ Q (.str (i ++ j)) H) pAddS := fun x y p q H M Q Qp hx hy R h l => by
  cases p <;> cases q <;> first
    | exact h.elim
    | exact ⟨_, _, hx, hy, h.1, l.at R h.2 rfl⟩
def qe_addS (ha : QE X a ta fa) (hb : QE X b tb fb) := qe_op (pos := pos) op_add_str (ar_addS (K := X.K)) ha hb
/-- -a -/
def fNeg (fa : FE) : FE := fun ρ M Q => fa ρ M fun x M1 => match x with
  | .int i => Q (.int (-i)) M1
  | _ => False
theorem qe_neg (ha : QE X a ta fa) : QE X (.UnaryOp .USub a pos) (tUn (rU fun i => .int (-i)) ta) (fNeg fa) := ⟨pe_un un_neg ha.p, fun σ H ρ M Q Qp s R q l =>
  ha.a σ H ρ M _ _ s R q fun x H1 p M1 e1 r1 i1 q1 => by
    cases p <;> first
      | exact q1.elim
      | exact ⟨_, i1, (l.ext e1).at r1 q1 rfl⟩⟩
/-- chains -/
def fChain (rp rp' : R2P) (fa fb fc : FE) : FE := fun ρ M Q => fa ρ M fun x M1 => fb ρ M1 fun y M2 => rp x y M2 fun z M3 => match z with
  | .bl k => (k = true → fc ρ M3 fun w M4 => rp' y w M4 Q) ∧ (k = false → Q (.bl false) M3)
  | _ => False
theorem ae_chain {r r' : R2} {rp rp' : R2P} (h : AR2 X.K r rp) (h' : AR2 X.K r' rp') (ha : AE X.K ta fa) (hb : AE X.K tb fb) (hc : AE X.K tc fc) : AE X.K (tChain r r' ta tb tc) (fChain rp rp' fa fb fc) := fun σ H ρ M Q Qp s R q l =>
  ha σ H ρ M _ _ s R q fun x H1 p M1 e1 r1 i1 q1 => hb σ H1 ρ M1 _ _ (s.ext R e1) r1 q1 fun y H2 p2 M2 e2 r2 i2 q2 =>
    h x y p p2 H2 M2 _ _ (r1.isP e2 i1) i2 r2 q2 fun z H3 p3 M3 e3 r3 i3 q3 => by
      cases p3 <;> first
        | exact q3.elim
        | skip
      rename_i k
      refine ⟨k, i3, ?_⟩
      have s3 := ((s.ext R e1).ext r1 e2).ext r2 e3
      cases k with
      | true => exact hc σ H3 ρ M3 _ _ s3 r3 (q3.1 rfl) fun w H4 p4 M4 e4 r4 i4 q4 => h' y w p2 p4 H4 M4 Q Qp (r3.isP e4 (r2.isP e3 i2)) i4 r4 q4 ((((l.ext e1).ext e2).ext e3).ext e4)
      | false => exact (((l.ext e1).ext e2).ext e3).at r3 (q3.2 rfl) rfl
theorem qe_chain {op op' : CmpOp} {r r' : R2} {rp rp' : R2P} (ho : OpR X (compareOp op) r) (ho' : OpR X (compareOp op') r') (h : AR2 X.K r rp) (h' : AR2 X.K r' rp') (ha : QE X a ta fa) (hb : QE X b tb fb) (hc : QE X c tc fc)
    (hm : lastMarks [op, op'] [b, c] = false := by with_unfolding_all rfl) : QE X (.Compare a [op, op'] [b, c] pos) (tChain r r' ta tb tc) (fChain rp rp' fa fb fc) := ⟨pe_chain ho ho' ha.p hb.p hc.p hm, ae_chain h h' ha.a hb.a hc.a⟩
theorem ar_le {K : PySem.W.Frag} : AR2 K (rI0 fun i j => .bl (decide (i ≤ j))) (pI0 fun i j => .bl (decide (i ≤ j))) := ar_I0 fun _ _ _ => rfl
theorem ar_lt {K : PySem.W.Frag} : AR2 K (rI0 fun i j => .bl (decide (i < j))) (pI0 fun i j => .bl (decide (i < j))) := ar_I0 fun _ _ _ => rfl

/-! ### tests -/
def fTest (f : FE) : FT := fun ρ M T F => f ρ M fun p M1 => match p with
  | .bl b => (b = true → T M1) ∧ (b = false → F M1)
  | _ => False
theorem at_test {t : TE} {f : FE} (h : AE X.K t f) : AT X.K (tTest t) (fTest f) := fun σ H ρ M Q T F s R q hT hF =>
  h σ H ρ M _ _ s R q fun x H1 p M1 e1 r1 i1 q1 => by
    cases p <;> first
      | exact q1.elim
      | skip
    rename_i k
    refine ⟨k, i1, ?_⟩
    cases k with
    | true => exact hT H1 M1 e1 r1 (q1.1 rfl)
    | false => exact hF H1 M1 e1 r1 (q1.2 rfl)
theorem at_tB {t : TE} {f : FE} (h : AE X.K t f) : AT X.K (tB t) (fTest f) := at_test h
theorem qt_cmp {op : CmpOp} {r : R2} {rp : R2P} (ho : OpR X (compareOp op) r) (h : AR2 X.K r rp) (ha : QE X a ta fa) (hb : QE X b tb fb) (hm : behindInMarks op b = false) : QT X (.Compare a [op] [b] pos) (tTest (tOp r ta tb)) (fTest (fOp rp fa fb)) :=
  ⟨pt_cmpR ho ha.p hb.p hm, at_test (ae_op h ha.a hb.a)⟩
def qt_lt (ha : QE X a ta fa) (hb : QE X b tb fb) := qt_cmp (pos := pos) op_lt (ar_lt (K := X.K)) ha hb (nomark _)
def qt_le (ha : QE X a ta fa) (hb : QE X b tb fb) := qt_cmp (pos := pos) op_le (ar_le (K := X.K)) ha hb (nomark _)
def qt_gt (ha : QE X a ta fa) (hb : QE X b tb fb) := qt_cmp (pos := pos) op_gt (ar_I0 (K := X.K) (gp := fun i j => .bl (decide (j < i))) fun _ _ _ => rfl) ha hb (nomark _)
def qt_ge (ha : QE X a ta fa) (hb : QE X b tb fb) := qt_cmp (pos := pos) op_ge (ar_I0 (K := X.K) (gp := fun i j => .bl (decide (j ≤ i))) fun _ _ _ => rfl) ha hb (nomark _)
def qt_eq (ha : QE X a ta fa) (hb : QE X b tb fb) := qt_cmp (pos := pos) op_eq (ar_eq (K := X.K)) ha hb (nomark _)
def qt_ne (ha : QE X a ta fa) (hb : QE X b tb fb) := qt_cmp (pos := pos) op_ne (ar_ne (K := X.K)) ha hb (nomark _)
def qt_isN (ha : QE X a ta fa) (hb : QE X b tb fb) := qt_cmp (pos := pos) op_isN (ar_isN (K := X.K)) ha hb (nomark _)
def qt_notN (ha : QE X a ta fa) (hb : QE X b tb fb) := qt_cmp (pos := pos) op_notN (ar_notN (K := X.K)) ha hb (nomark _)
theorem qt_chain {op op' : CmpOp} {r r' : R2} {rp rp' : R2P} (ho : OpR X (compareOp op) r) (ho' : OpR X (compareOp op') r') (h : AR2 X.K r rp) (h' : AR2 X.K r' rp') (ha : QE X a ta fa) (hb : QE X b tb fb) (hc : QE X c tc fc)
    (hm : lastMarks [op, op'] [b, c] = false := by with_unfolding_all rfl) : QT X (.Compare a [op, op'] [b, c] pos) (tTest (tChain r r' ta tb tc)) (fTest (fChain rp rp' fa fb fc)) := ⟨pt_chain ho ho' ha.p hb.p hc.p hm, at_test (ae_chain h h' ha.a hb.a hc.a)⟩
theorem qt_val (h : QE X e te fe) (he : ∀ whole, isTrue e X.env whole = (do let v ← whole; standAt e.pos; holding [v] (truthy v)) := by intro _; rfl) : QT X e (tB te) (fTest fe) := ⟨pt_val h.p he, at_tB h.a⟩
variable {tA tB' : TT} {fA fB : FT} {rest : List Expr}
def fNot (f : FT) : FT := fun ρ M T F => f ρ M F T
def fAnd (f g : FT) : FT := fun ρ M T F => f ρ M (fun M1 => g ρ M1 T F) F
def fOr (f g : FT) : FT := fun ρ M T F => f ρ M T (fun M1 => g ρ M1 T F)
theorem qt_not (ha : QT X a tA fA) : QT X (.UnaryOp .Not a pos) (tNot tA) (fNot fA) := ⟨pt_not ha.p, fun σ H ρ M Q T F s R q hT hF => ha.a σ H ρ M _ F T s R q hF hT⟩
theorem qw_and1 (ha : QT X a tA fA) : QW X (.BoolOp .And [a] pos) tA fA := ⟨pw_and1 ha.p, ha.a⟩
theorem qw_or1 (ha : QT X a tA fA) : QW X (.BoolOp .Or [a] pos) tA fA := ⟨pw_or1 ha.p, ha.a⟩
theorem qw_and (ha : QT X a tA fA) (hb : QW X (.BoolOp .And (b :: rest) pos) tB' fB) : QW X (.BoolOp .And (a :: b :: rest) pos) (tAnd tA tB') (fAnd fA fB) := ⟨pw_and ha.p hb.p, fun σ H ρ M Q T F s R q hT hF =>
  ha.a σ H ρ M _ _ _ s R q
    (fun H1 M1 e1 r1 q1 => by
      show if true = true then _ else _
      rw [if_pos rfl]
      exact hb.a σ H1 ρ M1 _ _ _ (s.ext R e1) r1 q1 (fun H2 M2 e2 r2 q2 => hT H2 M2 (e1.trans e2) r2 q2) (fun H2 M2 e2 r2 q2 => hF H2 M2 (e1.trans e2) r2 q2))
    (fun H1 M1 e1 r1 q1 => by
      show if false = true then _ else _
      rw [if_neg Bool.false_ne_true]
      exact hF H1 M1 e1 r1 q1)⟩
theorem qw_or (ha : QT X a tA fA) (hb : QW X (.BoolOp .Or (b :: rest) pos) tB' fB) : QW X (.BoolOp .Or (a :: b :: rest) pos) (tOr tA tB') (fOr fA fB) := ⟨pw_or ha.p hb.p, fun σ H ρ M Q T F s R q hT hF =>
  ha.a σ H ρ M _ _ _ s R q
    (fun H1 M1 e1 r1 q1 => by
      show if true = true then _ else _
      rw [if_pos rfl]
      exact hT H1 M1 e1 r1 q1)
    (fun H1 M1 e1 r1 q1 => by
      show if false = true then _ else _
      rw [if_neg Bool.false_ne_true]
      exact hb.a σ H1 ρ M1 _ _ _ (s.ext R e1) r1 q1 (fun H2 M2 e2 r2 q2 => hT H2 M2 (e1.trans e2) r2 q2) (fun H2 M2 e2 r2 q2 => hF H2 M2 (e1.trans e2) r2 q2))⟩
/-- a and b, a or b, not a as values (bools) -/
def fAndV (fa fb : FE) : FE := fun ρ M Q => fa ρ M fun x M1 => match x with
  | .bl c => (c = true → fb ρ M1 Q) ∧ (c = false → Q (.bl false) M1)
  | _ => False
def fOrV (fa fb : FE) : FE := fun ρ M Q => fa ρ M fun x M1 => match x with
  | .bl c => (c = true → Q (.bl true) M1) ∧ (c = false → fb ρ M1 Q)
  | _ => False
def fNotV (fa : FE) : FE := fun ρ M Q => fa ρ M fun x M1 => match x with
  | .bl c => Q (.bl (!c)) M1
  | _ => False
theorem qe_one {op} (h : QE X a ta fa) : QE X (.BoolOp op [a] pos) ta fa := ⟨pe_one h.p, h.a⟩
theorem qe_and (ha : QE X a ta fa) (hb : QE X (.BoolOp .And (b :: rest) pos) tb fb) : QE X (.BoolOp .And (a :: b :: rest) pos) (tAndV ta tb) (fAndV fa fb) := ⟨pe_and ha.p hb.p, fun σ H ρ M Q Qp s R q l =>
  ha.a σ H ρ M _ _ s R q fun x H1 p M1 e1 r1 i1 q1 => by
    cases p <;> first
      | exact q1.elim
      | skip
    rename_i k
    refine ⟨k, i1, ?_⟩
    cases k with
    | true => exact hb.a σ H1 ρ M1 _ _ (s.ext R e1) r1 (q1.1 rfl) (l.ext e1)
    | false => exact (l.ext e1).at r1 (q1.2 rfl) rfl⟩
theorem qe_or (ha : QE X a ta fa) (hb : QE X (.BoolOp .Or (b :: rest) pos) tb fb) : QE X (.BoolOp .Or (a :: b :: rest) pos) (tOrV ta tb) (fOrV fa fb) := ⟨pe_or ha.p hb.p, fun σ H ρ M Q Qp s R q l =>
  ha.a σ H ρ M _ _ s R q fun x H1 p M1 e1 r1 i1 q1 => by
    cases p <;> first
      | exact q1.elim
      | skip
    rename_i k
    refine ⟨k, i1, ?_⟩
    cases k with
    | true => exact (l.ext e1).at r1 (q1.1 rfl) rfl
    | false => exact hb.a σ H1 ρ M1 _ _ (s.ext R e1) r1 (q1.2 rfl) (l.ext e1)⟩
theorem qe_not (ha : QE X a ta fa) : QE X (.UnaryOp .Not a pos) (tNotV ta) (fNotV fa) := ⟨pe_not ha.p, fun σ H ρ M Q Qp s R q l =>
  ha.a σ H ρ M _ _ s R q fun x H1 p M1 e1 r1 i1 q1 => by
    cases p <;> first
      | exact q1.elim
      | exact ⟨_, i1, (l.ext e1).at r1 q1 rfl⟩⟩
def fIf (t : FT) (fa fb : FE) : FE := fun ρ M Q => t ρ M (fun M1 => fa ρ M1 Q) (fun M1 => fb ρ M1 Q)
theorem qe_ifExp (hc : QT X c tA fA) (ha : QE X a ta fa) (hb : QE X b tb fb) : QE X (.IfExp c a b pos) (tIf tA ta tb) (fIf fA fa fb) := ⟨pe_ifExp hc.p ha.p hb.p, fun σ H ρ M Q Qp s R q l =>
  hc.a σ H ρ M _ _ _ s R q
    (fun H1 M1 e1 r1 q1 => by
      show if true = true then _ else _
      rw [if_pos rfl]
      exact ha.a σ H1 ρ M1 _ _ (s.ext R e1) r1 q1 (l.ext e1))
    (fun H1 M1 e1 r1 q1 => by
      show if false = true then _ else _
      rw [if_neg Bool.false_ne_true]
      exact hb.a σ H1 ρ M1 _ _ (s.ext R e1) r1 q1 (l.ext e1))⟩
end
end CR

set_option Elab.async false
set_option linter.all false
set_option maxRecDepth 100000
set_option maxHeartbeats 4000000
/-! PV3: displays, subscripts, calls, statements, loops, comprehensions over pure values. -/
namespace CR
open PySem PySem.Spec L2

def getP : List P → Nat → Option P
  | [], _ => none
  | x :: _, 0 => some x
  | _ :: r, n + 1 => getP r n
theorem getP_eq : ∀ (xs : List P) (n : Nat), getP xs n = xs[n]?
  | [], _ => by simp [getP]
  | x :: r, 0 => by simp [getP]
  | x :: r, n + 1 => by simp [getP, getP_eq r n]
def atP (xs : List P) : Int → Option P
  | .ofNat n => getP xs n
  | .negSucc n => if n < xs.length then getP xs (xs.length - 1 - n) else none
theorem atP_atI (xs : List P) (i : Int) : atP xs i = atI xs i := by
  unfold atI ixN
  cases i with
  | ofNat n =>
    show getP xs n = _
    rw [getP_eq]
    have h0 : (0 : Int) ≤ Int.ofNat n := Int.natCast_nonneg n
    rw [if_pos h0]
    by_cases h : Int.ofNat n < (xs.length : Int)
    · rw [if_pos h]; rfl
    · rw [if_neg h]
      have : xs.length ≤ n := by
        have h1 : ¬ ((n : Int) < (xs.length : Int)) := h
        omega
      show xs[n]? = none
      exact List.getElem?_eq_none_iff.mpr this
  | negSucc n =>
    show (if n < xs.length then getP xs (xs.length - 1 - n) else none) = _
    have h0 : ¬ (0 : Int) ≤ Int.negSucc n := by omega
    rw [if_neg h0]
    by_cases h : n < xs.length
    · rw [if_pos h, getP_eq]
      have h1 : -(xs.length : Int) ≤ Int.negSucc n := by omega
      rw [if_pos h1]
      show _ = xs[(Int.negSucc n + (xs.length : Int)).toNat]?
      have e : (Int.negSucc n + (xs.length : Int)).toNat = xs.length - 1 - n := by omega
      rw [e]
    · rw [if_neg h]
      have h1 : ¬ -(xs.length : Int) ≤ Int.negSucc n := by omega
      rw [if_neg h1]
      rfl
theorem IsPs.atI {K : PySem.W.Frag} {H : Hp} {ps : List P} {vs : List V} {i : Int} {p : P} (h : IsPs K H ps vs) (e : atP ps i = some p) : ∃ v, L2.atI vs i = some v ∧ IsP K H p v := by
  rw [atP_atI] at e
  unfold L2.atI at e ⊢
  rw [h.length]
  cases q : ixN ps.length i with
  | none => rw [q] at e; cases e
  | some j =>
    rw [q] at e
    exact h.get e

/-! ### argument lists, displays -/
def fNil : FA := fun _ M Q => Q [] M
def fCons (fa : FE) (fr : FA) : FA := fun ρ M Q => fa ρ M fun x M1 => fr ρ M1 fun xs M2 => Q (x :: xs) M2
/-- short displays are small -/
def fTup (fa : FA) : FE := fun ρ M Q => fa ρ M fun ps M1 => match Nat.ble ps.length 1000 with
  | true => Q (.tup ps) M1
  | false => False
def fLst (fa : FA) : FE := fun ρ M Q => fa ρ M fun ps M1 => match Nat.ble ps.length 1000 with
  | true => ∀ a M', M1 a = none → Le M1 M' → M' a = some (.lst ps) → Q (.ref a) M'
  | false => False
section
variable {X : Cx} {a b c e : Expr} {es : List Expr} {ta tb tc te : TE} {fa fb fc fe : FE} {t : TA} {f : FA} {pos : Pos}
theorem qa_nil : QA X [] tNil fNil := ⟨pa_nil, fun σ H ρ M Q Qp s R q l => l _ _ _ _ Ext.refl R IsPs.nil q⟩
theorem qa_cons (ha : QE X e te fe) (hr : QA X es t f) (hs : starEach (e :: es) X.env = (false, eval e X.env) :: starEach es X.env := by rfl) : QA X (e :: es) (tCons te t) (fCons fe f) := ⟨pa_cons ha.p hr.p hs, fun σ H ρ M Q Qp s R q l =>
  ha.a σ H ρ M _ _ s R q fun x H1 p M1 e1 r1 i1 q1 => hr.a σ H1 ρ M1 _ _ (s.ext R e1) r1 q1 fun vs H2 ps M2 e2 r2 i2 q2 => l _ _ _ _ (e1.trans e2) r2 (IsPs.cons (r1.isP e2 i1) i2) q2⟩
theorem ble1000 {n : Nat} (h : Nat.ble n 1000 = true) : n ≤ sizeLine := Nat.le_trans (Nat.le_of_ble_eq_true h) (by decide)
theorem qe_tup {x1} (h : QA X es t f) : QE X (.Tuple es x1 pos) (tTup t) (fTup f) := ⟨pe_tup h.p, fun σ H ρ M Q Qp s R q l =>
  h.a σ H ρ M _ _ s R q fun vs H1 ps M1 e1 r1 i1 q1 => by
    cases z : Nat.ble ps.length 1000 with
    | false => simp only [z] at q1
    | true =>
      simp only [z] at q1
      refine ⟨by rw [i1.length]; exact ble1000 z, fun p n => ?_⟩
      exact (l.ext e1).new r1 n q1 ⟨p, vs, rfl, SqT.of upd_same, r1.isPs (Ext.new n) i1⟩⟩
theorem qe_lst (h : QA X es t f) : QE X (.List es pos) (tLst t) (fLst f) := ⟨pe_lst h.p, fun σ H ρ M Q Qp s R q l =>
  h.a σ H ρ M _ _ s R q fun vs H1 ps M1 e1 r1 i1 q1 => by
    cases z : Nat.ble ps.length 1000 with
    | false => simp only [z] at q1
    | true =>
      simp only [z] at q1
      refine ⟨by rw [i1.length]; exact ble1000 z, fun p n => ?_⟩
      have k : MOk X.K (upd H1 p (.lst vs)) (updM M1 p (.lst ps)) p (.lst ps) := ⟨vs, upd_same, r1.isPs (Ext.newM (m := .lst ps) n) i1⟩
      exact (l.ext e1).newM r1 n k (q1 p _ (r1.none n) (Le.upd (r1.none n)) updM_same) rfl⟩

/-! ### subscripts, len -/
def pIx : R2P := fun x y M Q => match x, y with
  | .tup xs, .int i => (match atP xs i with
    | some v => Q v M
    | none => False)
  | .ref a, .int i => (match M a with
    | some (.lst xs) => (match atP xs i with
      | some v => Q v M
      | none => False)
    | _ => False)
  | .str z, .int i => z.length ≤ sizeLine ∧ ∃ c, L2.atI z.cps.toList i = some c ∧ Q (.str ⟨#[c]⟩) M
  | _, _ => False
theorem ar_ix {K : PySem.W.Frag} : AR2 K (rIx K) pIx := fun x y p q H M Q Qp hx hy R h l => by
  cases q with
  | int i =>
    cases p with
    | tup ps =>
      obtain ⟨a, xs, e, sq, is⟩ := hx
      have h1 : (match atP ps i with | some v => Qp v M | none => False) := h
      cases z : atP ps i with
      | none => rw [z] at h1; exact h1.elim
      | some v =>
        rw [z] at h1
        obtain ⟨u, e1, e2⟩ := is.atI z
        exact .inr (.inl ⟨a, xs, i, u, e, hy, sq, e1, l.at R h1 e2⟩)
    | ref a =>
      cases m : M a with
      | none => simp only [pIx, m] at h
      | some o =>
        cases o with
        | lst ps =>
          simp only [pIx, m] at h
          obtain ⟨xs, e, is⟩ := R a _ m
          cases z : atP ps i with
          | none => rw [z] at h; exact h.elim
          | some v =>
            rw [z] at h
            obtain ⟨u, e1, e2⟩ := is.atI z
            exact .inl ⟨a, xs, i, u, hx, hy, SqL.of e, e1, l.at R h e2⟩
        | _ => simp only [pIx, m] at h
    | str z =>
      obtain ⟨h1, c, h2, h3⟩ := h
      exact .inr (.inr ⟨z, i, c, hx, hy, h1, h2, l.at R h3 rfl⟩)
    | _ => exact h.elim
  | _ => cases p <;> exact h.elim
theorem qe_ix (ha : QE X a ta fa) (hb : QE X b tb fb) (hs : PlainIx b := by exact fun _ _ => rfl) : QE X (.Subscript a b pos) (tOp (rIx X.K) ta tb) (fOp pIx fa fb) := ⟨pe_ix ix_seq ha.p hb.p hs, ae_op ar_ix ha.a hb.a⟩

/-! ### calls -/
abbrev PSp := List P → Mp → KE → Prop
def toSp (K : PySem.W.Frag) (sp : PSp) : Sp := fun vs H Q _ => ∃ ps M Qp, IsPs K H ps vs ∧ Rep K H M ∧ sp ps M Qp ∧ Lk K H M Q Qp
def fCall (sp : PSp) (f : FA) : FE := fun ρ M Q => f ρ M fun ps M1 => sp ps M1 Q
theorem qe_call {k j : Nat} {x : Str} {p : Pos} {sp : PSp} (c : C8.Cal X.prog X.w X.K X.mg X.base k x (toSp X.K sp) []) (hr : Room j X.A) (hk : k ≤ j) (hg : Gl X x) (ha : QA X (e :: es) t f)
    (hdb : (x == ("__debug__" : Str)) = false := by decide) (he : starEach (e :: es) X.env = (false, eval e X.env) :: starEach es X.env := by rfl) (hpl : (backTo pos (starEach es X.env)).any (·.1) = false := by rfl) :
    QE X (.Call (.Name x p) (e :: es) [] pos) (tCall (toSp X.K sp) [] E0 t) (fCall sp f) := ⟨C8.pe_c c hr hk hg ha.p hdb he hpl, fun σ H ρ M Q Qp s R q l =>
  ha.a σ H ρ M _ _ s R q fun vs H1 ps M1 e1 r1 i1 q1 => by
    show toSp X.K sp (vs ++ []) H1 Q E0
    rw [List.append_nil]
    exact ⟨ps, M1, Qp, i1, r1, q1, l.ext e1⟩⟩
/-- built-ins -/
abbrev RP := List P → Mp → KE → Prop
def AC (K : PySem.W.Frag) (r : List V → Hp → VK → Prop) (rp : RP) : Prop := ∀ (vs : List V) (ps : List P) (H : Hp) (M : Mp) (Q : VK) (Qp : KE), IsPs K H ps vs → Rep K H M → rp ps M Qp → Lk K H M Q Qp → r vs H Q
def fCB (rp : RP) (f : FA) : FE := fun ρ M Q => f ρ M fun ps M1 => rp ps M1 Q
theorem ae_cb {r : List V → Hp → VK → Prop} {rp : RP} (h : AC X.K r rp) (ha : AA X.K t f) : AE X.K (tCB r t) (fCB rp f) := fun σ H ρ M Q Qp s R q l =>
  ha σ H ρ M _ _ s R q fun vs H1 ps M1 e1 r1 i1 q1 => h vs ps H1 M1 Q Qp i1 r1 q1 (l.ext e1)
theorem qe_callB {id : String} {x : Str} {p : Pos} {r : List V → Hp → VK → Prop} {rp : RP} (hc : CallR X (.builtin id) r) (h : AC X.K r rp) (hg : Gl X x) (hm : X.mg x = none) (hv : bootBuiltins x = some (.builtin id)) (ha : QA X (e :: es) t f) (hn : x ≠ "__name__" := by decide) (hdb : (x == ("__debug__" : Str)) = false := by decide)
    (he : starEach (e :: es) X.env = (false, eval e X.env) :: starEach es X.env := by rfl) (hpl : (backTo pos (starEach es X.env)).any (·.1) = false := by rfl) : QE X (.Call (.Name x p) (e :: es) [] pos) (tCB r t) (fCB rp f) := ⟨pe_callB hc hg hm hv ha.p hn hdb he hpl, ae_cb h ha.a⟩
theorem qe_callTy {T : String} {x : Str} {p : Pos} {r : List V → Hp → VK → Prop} {rp : RP} (hc : CallR X (.type T) r) (h : AC X.K r rp) (hg : Gl X x) (hm : X.mg x = none) (hv : bootBuiltins x = some (.type T)) (ha : QA X (e :: es) t f) (hn : x ≠ "__name__" := by decide) (hdb : (x == ("__debug__" : Str)) = false := by decide)
    (he : starEach (e :: es) X.env = (false, eval e X.env) :: starEach es X.env := by rfl) (hpl : (backTo pos (starEach es X.env)).any (·.1) = false := by rfl) : QE X (.Call (.Name x p) (e :: es) [] pos) (tCB r t) (fCB rp f) := ⟨pe_callTy hc hg hm hv ha.p hn hdb he hpl, ae_cb h ha.a⟩
/-- methods of texts and of lists -/
abbrev RMP := P → List P → Mp → KE → Prop
def AM (K : PySem.W.Frag) (r : V → List V → Hp → VK → Prop) (rp : RMP) : Prop := ∀ (x : V) (p : P) (vs : List V) (ps : List P) (H : Hp) (M : Mp) (Q : VK) (Qp : KE), IsP K H p x → IsPs K H ps vs → Rep K H M → rp p ps M Qp → Lk K H M Q Qp → r x vs H Q
def fBMS (rp : RMP) (fo : FE) (f : FA) : FE := fun ρ M Q => fo ρ M fun x M1 => match x with
  | .str z => f ρ M1 fun ys M2 => rp (.str z) ys M2 Q
  | _ => False
def fBML (rp : RMP) (fo : FE) (f : FA) : FE := fun ρ M Q => fo ρ M fun x M1 => match x with
  | .ref a => (match M1 a with
    | some (.lst _) => f ρ M1 fun ys M2 => rp (.ref a) ys M2 Q
    | _ => False)
  | _ => False
variable {o : Expr} {to : TE} {fo : FE} {name : Str} {apos cpos : Pos} {id : String} {r : V → List V → Hp → VK → Prop} {rp : RMP}
theorem qe_bmS (pa : PlainAttrs "str") (slot : Slot "str" name id) (hty : typeOf (.builtin id) = pure (.type "method_descriptor")) (hm : MtR X id r) (h : AM X.K r rp) (ho : QE X o to fo) (ha : QA X (e :: es) t f)
    (hbase : attributeBase o name X.env (eval o X.env) = eval o X.env := by rfl)
    (hfew : ((backTo cpos (starEach (e :: es) X.env)).all (fun x => !x.1) && (backToKw cpos (keywordEach [] X.env)).all (fun x => x.1.isSome)
      && decide ((e :: es).length + ([] : List Keyword).length + (if ([] : List Keyword).isEmpty then 0 else 1) < 30)) = true := by rfl)
    (hline : (apos.endLine == cpos.line) = true := by rfl) (hs : starEach (e :: es) X.env = (false, eval e X.env) :: starEach es X.env := by rfl) (hplain : (backTo cpos (starEach es X.env)).any (·.1) = false := by rfl) :
    QE X (.Call (.Attribute o name apos) (e :: es) [] cpos) (tBM X.K "str" r to t) (fBMS rp fo f) := ⟨pe_bm pa slot hty hm ho.p ha.p hbase hfew hline hs hplain, fun σ H ρ M Q Qp s R q l =>
  ho.a σ H ρ M _ _ s R q fun x H1 p M1 e1 r1 i1 q1 => by
    cases p <;> first
      | exact q1.elim
      | skip
    rename_i z
    have ex : x = V.str z := i1
    subst ex
    exact ⟨rfl, ha.a σ H1 ρ M1 _ _ (s.ext R e1) r1 q1 fun vs H2 ps M2 e2 r2 i2 q2 => h (.str z) (.str z) _ _ _ _ _ _ rfl i2 r2 q2 ((l.ext e1).ext e2)⟩⟩
theorem qe_bmL (pa : PlainAttrs "list") (slot : Slot "list" name id) (hty : typeOf (.builtin id) = pure (.type "method_descriptor")) (hm : MtR X id r) (h : AM X.K r rp) (ho : QE X o to fo) (ha : QA X (e :: es) t f)
    (hbase : attributeBase o name X.env (eval o X.env) = eval o X.env := by rfl)
    (hfew : ((backTo cpos (starEach (e :: es) X.env)).all (fun x => !x.1) && (backToKw cpos (keywordEach [] X.env)).all (fun x => x.1.isSome)
      && decide ((e :: es).length + ([] : List Keyword).length + (if ([] : List Keyword).isEmpty then 0 else 1) < 30)) = true := by rfl)
    (hline : (apos.endLine == cpos.line) = true := by rfl) (hs : starEach (e :: es) X.env = (false, eval e X.env) :: starEach es X.env := by rfl) (hplain : (backTo cpos (starEach es X.env)).any (·.1) = false := by rfl) :
    QE X (.Call (.Attribute o name apos) (e :: es) [] cpos) (tBM X.K "list" r to t) (fBML rp fo f) := ⟨pe_bm pa slot hty hm ho.p ha.p hbase hfew hline hs hplain, fun σ H ρ M Q Qp s R q l =>
  ho.a σ H ρ M _ _ s R q fun x H1 p M1 e1 r1 i1 q1 => by
    cases p with
    | ref a =>
      have ex : x = V.ref a := i1
      subst ex
      cases m : M1 a with
      | none => simp only [m] at q1
      | some ob =>
        cases ob with
        | lst ys =>
          simp only [m] at q1
          obtain ⟨xs, ex, _⟩ := r1 a _ m
          exact ⟨.inl ⟨rfl, xs, SqL.of ex⟩, ha.a σ H1 ρ M1 _ _ (s.ext R e1) r1 q1 fun vs H2 ps M2 e2 r2 i2 q2 => h (.ref a) (.ref a) _ _ _ _ _ _ rfl i2 r2 q2 ((l.ext e1).ext e2)⟩
        | _ => simp only [m] at q1
    | _ => exact q1.elim⟩
end

/-! ### statements -/
def fNext : FS := fun D ρ M => D.nx ρ M
def fSeq (t u : FS) : FS := fun D ρ M => t { D with nx := u D } ρ M
def fBreak : FS := fun D ρ M => D.bk ρ M
def fCont : FS := fun D ρ M => D.ct ρ M
def fDrop (fe : FE) : FS := fun D ρ M => fe ρ M fun _ M1 => D.nx ρ M1
def fRet (fe : FE) : FS := fun D ρ M => fe ρ M D.rt
def fIfS (c : FT) (t u : FS) : FS := fun D ρ M => c ρ M (fun M1 => t D ρ M1) (fun M1 => u D ρ M1)
def fAsg (fe : FE) (g : FG) : FS := fun D ρ M => fe ρ M fun p M1 => g p ρ M1 D.nx
def fGName (i : Nat) : FG := fun p ρ M Q => Q (setS ρ i p) M
def fGNil : List P → PSt → Mp → (PSt → Mp → Prop) → Prop := fun ps ρ M Q => match ps with
  | [] => Q ρ M
  | _ => False
def fGCons (g : FG) (u : List P → PSt → Mp → (PSt → Mp → Prop) → Prop) : List P → PSt → Mp → (PSt → Mp → Prop) → Prop := fun ps ρ M Q => match ps with
  | p :: r => g p ρ M fun ρ' M' => u r ρ' M' Q
  | [] => False
def fGTup (n : Nat) (u : List P → PSt → Mp → (PSt → Mp → Prop) → Prop) : FG := fun p ρ M Q => match p with
  | .tup ps => ps.length = n ∧ u ps ρ M Q
  | _ => False
def fNever : FS := fun _ _ _ => False
section
variable {X : Cx} {st : Stmt} {sts rest : List Stmt} {t u : TS} {f g : FS} {e : Expr} {te : TE} {fe : FE} {pos : Pos}
theorem as_next : AS X.K tNext fNext := fun D Dp σ H ρ M s R q l => l.nx σ H ρ M Ext.refl R s q
theorem qs_never : QS X st tNever fNever := ⟨ps_never, fun D Dp σ H ρ M s R q l => q.elim⟩
theorem qss_nil : QSs X [] tNext fNext := ⟨pss_nil, as_next⟩
theorem qss_cons (h1 : QS X st t f) (h2 : QSs X rest u g) : QSs X (st :: rest) (tSeq t u) (fSeq f g) := ⟨pss_cons h1.p h2.p, fun D Dp σ H ρ M s R q l =>
  h1.a _ _ σ H ρ M s R q ⟨fun σ' H' ρ' M' e r i q => h2.a D Dp σ' H' ρ' M' i r q (l.ext e), l.rt, l.bk, l.ct⟩⟩
theorem qss_one (h1 : QS X st t f) : QSs X [st] t f := ⟨pss_one h1.p, h1.a⟩
theorem qs_pass : QS X (.Pass pos) tNext fNext := ⟨ps_pass, as_next⟩
theorem qs_break : QS X (.Break pos) tBreak fBreak := ⟨ps_break, fun D Dp σ H ρ M s R q l => l.bk σ H ρ M Ext.refl R s q⟩
theorem qs_continue : QS X (.Continue pos) tCont fCont := ⟨ps_continue, fun D Dp σ H ρ M s R q l => l.ct σ H ρ M Ext.refl R s q⟩
theorem qs_expr (he : QE X e te fe) (hs : swapsWith e none pos.line X.env = pure false := by rfl) : QS X (.Expr e pos) (tDrop te) (fDrop fe) := ⟨ps_expr he.p hs, fun D Dp σ H ρ M s R q l =>
  he.a σ H ρ M _ _ s R q fun v H1 p M1 e1 r1 i1 q1 => l.nx σ H1 ρ M1 e1 r1 (s.ext R e1) q1⟩
theorem qs_ret (he : QE X e te fe) : QS X (.Return (some e) pos) (tRet te) (fRet fe) := ⟨ps_ret he.p, fun D Dp σ H ρ M s R q l => he.a σ H ρ M _ _ s R q l.rt⟩
theorem qs_if {c : Expr} {a b : List Stmt} {tc : TT} {fc : FT} (hc : QT X c tc fc) (ha : QSs X a t f) (hb : QSs X b u g) : QS X (.If c a b pos) (tIfS tc t u) (fIfS fc f g) := ⟨ps_if hc.p ha.p hb.p, fun D Dp σ H ρ M s R q l =>
  hc.a σ H ρ M _ _ _ s R q
    (fun H1 M1 e1 r1 q1 => by
      show if true = true then _ else _
      rw [if_pos rfl]
      exact ha.a D Dp σ H1 ρ M1 (s.ext R e1) r1 q1 (l.ext e1))
    (fun H1 M1 e1 r1 q1 => by
      show if false = true then _ else _
      rw [if_neg Bool.false_ne_true]
      exact hb.a D Dp σ H1 ρ M1 (s.ext R e1) r1 q1 (l.ext e1))⟩
theorem ag_name {K : PySem.W.Frag} {i : Nat} : AG K (gName i) (fGName i) := fun v p σ H ρ M Q Qp iv s R q l => l _ _ _ _ Ext.refl R (s.set iv) q
theorem qg_name {i : Nat} {x : Str} (hN : X.N.Nodup) (hi : X.N[i]? = some x) (hx : Loc X.env.scope x) (hf : X.fn x = true ∨ X.env.scope.names.lookup x = some .local := by first | exact .inl rfl | exact .inr rfl | assumption) : QG X (.Name x pos) (gName i) (fGName i) := ⟨pg_name hN hi hx hf, ag_name⟩
theorem qgs_nil : QGs X [] gNil fGNil := ⟨pgs_nil, fun vs ps σ H ρ M Q Qp iv s R q l => by
  cases ps with
  | nil => exact ⟨iv, l _ _ _ _ Ext.refl R s q⟩
  | cons _ _ => exact q.elim⟩
theorem qgs_cons {es : List Expr} {tg : TG} {fg : FG} {ts : TGs} {fs : List P → PSt → Mp → (PSt → Mp → Prop) → Prop} (h1 : QG X e tg fg) (h2 : QGs X es ts fs)
    (hs : (assignEach (e :: es) X.env).map (·.2) = assign e X.env :: (assignEach es X.env).map (·.2) := by rfl) : QGs X (e :: es) (gCons tg ts) (fGCons fg fs) := ⟨pgs_cons h1.p h2.p hs, fun vs ps σ H ρ M Q Qp iv s R q l => by
  cases ps with
  | nil => exact q.elim
  | cons p r =>
    obtain ⟨v, w, e, i1, i2⟩ := iv
    exact ⟨v, w, e, h1.a v p σ H ρ M _ _ i1 s R q fun σ' H' ρ' M' e1 r1 s1 q1 => h2.a w r σ' H' ρ' M' _ _ (R.isPs e1 i2) s1 r1 q1 (l.ext e1)⟩⟩
theorem qg_tup {es : List Expr} {k n : Nat} {ts : TGs} {fs : List P → PSt → Mp → (PSt → Mp → Prop) → Prop} (hc : X.calm = true) (h : QGs X es ts fs)
    (hn : (assignEach es X.env).length = n := by rfl) (hst : (assignEach es X.env).findIdx? (·.1) = none := by rfl) : QG X (.Tuple es k pos) (gTup X.K n ts) (fGTup n fs) := ⟨pg_tup hc h.p hn hst, fun v p σ H ρ M Q Qp iv s R q l => by
  cases p with
  | tup ps =>
    obtain ⟨a, xs, e, sq, is⟩ := iv
    exact ⟨a, xs, e, sq, by rw [is.length]; exact q.1, h.a xs ps σ H ρ M _ _ is s R q.2 l⟩
  | _ => exact q.elim⟩
theorem as_asg {K : PySem.W.Frag} {tg : TG} {fg : FG} (he : AE K te fe) (hg : AG K tg fg) : AS K (tAsg te tg) (fAsg fe fg) := fun D Dp σ H ρ M s R q l =>
  he σ H ρ M _ _ s R q fun v H1 p M1 e1 r1 i1 q1 => hg v p σ H1 ρ M1 _ _ i1 (s.ext R e1) r1 q1 (l.nx.ext e1)
theorem qs_asg {tg : Expr} {gt : TG} {fg : FG} (he : QE X e te fe) (hg : QG X tg gt fg) (hs : swapsWithSole [tg] e pos.line X.env = pure false := by rfl) (hw : swappedStores [tg] e X.env = pure none := by rfl)
    (h1 : (assignEach [tg] X.env).map (·.2) = [assign tg X.env] := by rfl) : QS X (.Assign [tg] e pos) (tAsg te gt) (fAsg fe fg) := ⟨ps_asg he.p hg.p hs hw h1, as_asg he.a hg.a⟩
theorem qs_set {i : Nat} {x : Str} {pos' : Pos} (hN : X.N.Nodup) (hi : X.N[i]? = some x) (hx : Loc X.env.scope x) (he : QE X e te fe) (hs : swapsWith e (some (.Name x pos')) pos.line X.env = pure false := by rfl) (hf : X.fn x = true ∨ X.env.scope.names.lookup x = some .local := by first | exact .inl rfl | exact .inr rfl | assumption) :
    QS X (.Assign [.Name x pos'] e pos) (tAsg te (gName i)) (fAsg fe (fGName i)) := ⟨ps_set hN hi hx he.p hs hf, as_asg he.a ag_name⟩
/-- x += e, x -= e of ints -/
def fAugI (h : Int → Int → Int) (i : Nat) (fe : FE) : FS := fun D ρ M => match nth ρ i with
  | some (.int a) => fe ρ M fun y M1 => (match y with
    | .int b => D.nx (setS ρ i (.int (h a b))) M1
    | _ => False)
  | _ => False
theorem as_augI {h : Int → Int → Int} {i : Nat} (he : AE X.K te fe) : AS X.K (tAug i te (ipI h)) (fAugI h i fe) := fun D Dp σ H ρ M s R q l => by
  cases z : nth ρ i with
  | none => simp only [fAugI, z] at q
  | some p =>
    cases p with
    | int a =>
      simp only [fAugI, z] at q
      obtain ⟨v, e1, e2⟩ := s.2 i _ z
      refine ⟨v, e1, he σ H ρ M _ _ s R q fun y H1 p1 M1 x1 r1 i1 q1 => ?_⟩
      cases p1 with
      | int b => exact ⟨a, b, e2, i1, l.nx _ _ _ _ x1 r1 ((s.ext R x1).set (p := .int (h a b)) rfl) q1⟩
      | _ => exact q1.elim
    | _ => simp only [fAugI, z] at q
theorem qs_augAdd {i : Nat} {x : Str} {pos' : Pos} (hN : X.N.Nodup) (hi : X.N[i]? = some x) (hx : Loc X.env.scope x) (he : QE X e te fe) (hf : X.fn x = true ∨ X.env.scope.names.lookup x = some .local := by first | exact .inl rfl | exact .inr rfl | assumption) :
    QS X (.AugAssign (.Name x pos') .Add e pos) (tAug i te (ipI fun i j => i + j)) (fAugI (fun i j => i + j) i fe) := ⟨ps_aug hN hi hx he.p ip_add hf, as_augI he.a⟩
theorem qs_augSub {i : Nat} {x : Str} {pos' : Pos} (hN : X.N.Nodup) (hi : X.N[i]? = some x) (hx : Loc X.env.scope x) (he : QE X e te fe) (hf : X.fn x = true ∨ X.env.scope.names.lookup x = some .local := by first | exact .inl rfl | exact .inr rfl | assumption) :
    QS X (.AugAssign (.Name x pos') .Sub e pos) (tAug i te (ipI fun i j => i - j)) (fAugI (fun i j => i - j) i fe) := ⟨ps_aug hN hi hx he.p ip_sub hf, as_augI he.a⟩
end

/-! ### while -/
def WhB (c : FT) (b : FS) (D : PEnds) (ρ : PSt) (M : Mp) : Prop := ∃ W : Nat → PSt → Mp → Prop, (∃ m, W m ρ M) ∧ ∀ m ρ M, W m ρ M →
  c ρ M (fun M1 => b { D with nx := fun ρ' M' => ∃ m', m' < m ∧ W m' ρ' M', ct := fun ρ' M' => ∃ m', m' < m ∧ W m' ρ' M', bk := D.nx } ρ M1) (fun M1 => D.nx ρ M1)
def fWhile (c : FT) (b : FS) : FS := fun D ρ M => WhB c b D ρ M
theorem as_while {K : PySem.W.Frag} {tc : TT} {fc : FT} {tb : TS} {fb : FS} (hc : AT K tc fc) (hb : AS K tb fb) : AS K (tWhile tc tb) (fWhile fc fb) := fun D Dp σ H ρ M s R q l => by
  obtain ⟨W, ⟨m0, w0⟩, turn⟩ := q
  refine ⟨fun m σ' H' => ∃ ρ' M', Ext H M H' M' ∧ Rep K H' M' ∧ IsS K H' σ' ρ' ∧ W m ρ' M', ⟨m0, ρ, M, Ext.refl, R, s, w0⟩, ?_⟩
  rintro m σ1 H1 ⟨ρ1, M1, e1, r1, s1, w1⟩
  refine hc σ1 H1 ρ1 M1 _ _ _ s1 r1 (turn m ρ1 M1 w1) (fun H2 M2 e2 r2 q2 => ?_) (fun H2 M2 e2 r2 q2 => ?_)
  · show if true = true then _ else _
    rw [if_pos rfl]
    refine ⟨fun σ' H' => ∃ m', m' < m ∧ ∃ ρ' M', Ext H M H' M' ∧ Rep K H' M' ∧ IsS K H' σ' ρ' ∧ W m' ρ' M', fun σ' H' z => z, ?_⟩
    have nx : LkN K H2 M2 (fun σ' H' => ∃ m', m' < m ∧ ∃ ρ' M', Ext H M H' M' ∧ Rep K H' M' ∧ IsS K H' σ' ρ' ∧ W m' ρ' M') (fun ρ' M' => ∃ m', m' < m ∧ W m' ρ' M') := fun σ' H' ρ' M' e3 r3 s3 q3 => by
      obtain ⟨m', lt, w⟩ := q3
      exact ⟨m', lt, ρ', M', (e1.trans e2).trans e3, r3, s3, w⟩
    exact hb _ _ σ1 H2 ρ1 M2 (s1.ext r1 e2) r2 q2 ⟨nx, l.rt.ext (e1.trans e2), l.nx.ext (e1.trans e2), nx⟩
  · show if false = true then _ else _
    rw [if_neg Bool.false_ne_true]
    exact l.nx σ1 H2 ρ1 M2 (e1.trans e2) r2 (s1.ext r1 e2) q2
theorem qs_while {X : Cx} {c : Expr} {body : List Stmt} {tc : TT} {tb : TS} {fc : FT} {fb : FS} {pos : Pos} (hp : PassesOwn (model X.prog X.w) X.A X.env X.xe) (hc : QT X c tc fc) (hb : QSs X body tb fb) : QS X (.While c body [] pos) (tWhile tc tb) (fWhile fc fb) :=
  ⟨ps_while hp hc.p hb.p, as_while hc.a hb.a⟩
end CR

set_option Elab.async false
set_option linter.all false
set_option maxRecDepth 100000
set_option maxHeartbeats 4000000
/-! PV4: for loops, comprehensions, list methods, built-ins over pure values. -/
namespace CR
open PySem PySem.Spec L2

/-! ### what is walked -/
structure PIt where
  n : Nat
  item : Nat → P
  at_ : Option (Addr × List P)
def PIt.keep (J : PIt) (M : Mp) : Prop := match J.at_ with
  | some (a, xs) => M a = some (.lst xs)
  | none => True
theorem PIt.keep_le {J : PIt} {M M' : Mp} (k : J.keep M) (l : Le M M') : J.keep M' := by
  unfold PIt.keep at k ⊢
  cases e : J.at_ with
  | none => trivial
  | some p => rw [e] at k; exact l _ _ k
abbrev FI := PSt → Mp → (PIt → Mp → Prop) → Prop
structure ItOk (K : PySem.W.Frag) (H0 : Hp) (M0 : Mp) (J : It) (Jp : PIt) : Prop where
  ini : Jp.keep M0
  go : ∀ i H M, Ext H0 M0 H M → Rep K H M → Jp.keep M → i < Jp.n → J.go i H
  yld : ∀ i H M x H2, Ext H0 M0 H M → Rep K H M → Jp.keep M → i < Jp.n → J.yld i H x H2 → Ext H M H2 M ∧ Rep K H2 M ∧ IsP K H2 (Jp.item i) x
  stop : ∀ H M, Ext H0 M0 H M → Rep K H M → Jp.keep M → J.stop Jp.n H
def AI (K : PySem.W.Frag) (wi : TI) (fi : FI) : Prop := ∀ (σ : L2.St) (H : Hp) (ρ : PSt) (M : Mp) (R : It → Hp → Prop) (Rp : PIt → Mp → Prop), IsS K H σ ρ → Rep K H M → fi ρ M Rp →
  (∀ J Jp H' M', Ext H M H' M' → Rep K H' M' → ItOk K H' M' J Jp → Rp Jp M' → R J H') → wi σ H R
structure QI (X : Cx) (tg iter : Expr) (wi : TI) (fi : FI) : Prop where
  p : PI X tg iter wi
  a : AI X.K wi fi
def rngIt (lo : Int) (n : Nat) : PIt := ⟨n, fun i => .int (lo + i), none⟩
def seqIt (xs : List P) : PIt := ⟨xs.length, fun i => (xs[i]?).getD .non, none⟩
def lstIt (a : Addr) (xs : List P) : PIt := ⟨xs.length, fun i => (xs[i]?).getD .non, some (a, xs)⟩
def strIt (z : Str) : PIt := ⟨z.cps.toList.length, fun i => .str ⟨#[(z.cps.toList[i]?).getD 0]⟩, none⟩
theorem itr_ok {K : PySem.W.Frag} {H0 : Hp} {M0 : Mp} {lo : Int} {n : Nat} : ItOk K H0 M0 (Itr lo n) (rngIt lo n) where
  ini := trivial
  go := fun i H M _ _ _ h => h
  yld := fun i H M x H2 _ R _ _ h => by
    obtain ⟨e1, e2⟩ := h
    rw [e1]
    exact ⟨Ext.refl, R, e2⟩
  stop := fun _ _ _ _ _ => Nat.le_refl _
theorem itt_ok {K : PySem.W.Frag} {H0 : Hp} {M0 : Mp} {a : Addr} {vs : List V} {ps : List P} (R0 : Rep K H0 M0) (h : SqT K H0 a vs) (is : IsPs K H0 ps vs) : ItOk K H0 M0 (Itt K a) (seqIt ps) where
  ini := trivial
  go := fun i H M E R _ hi => by
    have hi' : i < ps.length := hi
    exact ⟨vs, vs[i]'(by rw [is.length]; exact hi'), R0.sqT E _ _ h, by simp⟩
  yld := fun i H M x H2 E R _ hi y => by
    obtain ⟨e1, e2⟩ := y
    rw [e1]
    refine ⟨Ext.refl, R, ?_⟩
    have e := e2 vs (R0.sqT E _ _ h)
    obtain ⟨p, e3, e4⟩ := is.getV e
    show IsP K H ((ps[i]?).getD .non) x
    rw [e3]
    exact R0.isP E e4
  stop := fun H M E R _ => ⟨vs, R0.sqT E _ _ h, by rw [is.length]; exact Nat.le_refl _⟩
theorem sqL_inj {K : PySem.W.Frag} {H : Hp} {a : Addr} {xs : List V} (h : H a = some (.lst xs)) {ys : List V} (h' : Rd H a (.lst ys)) : xs = ys := by
  rcases h' with h' | ⟨o, h'⟩
  · rw [h] at h'; cases h'; rfl
  · rw [h] at h'; cases h'
theorem itl_ok {K : PySem.W.Frag} {H0 : Hp} {M0 : Mp} {a : Addr} {ps : List P} (hm : M0 a = some (.lst ps)) : ItOk K H0 M0 (Itl K a) (lstIt a ps) where
  ini := hm
  go := fun i H M E R k hi => by
    obtain ⟨xs, e, is⟩ := R a _ k
    have hi' : i < ps.length := hi
    exact ⟨xs, xs[i]'(by rw [is.length]; exact hi'), SqL.of e, by simp⟩
  yld := fun i H M x H2 E R k hi y => by
    obtain ⟨xs, e, is⟩ := R a _ k
    obtain ⟨e1, e2⟩ := y
    rw [e1]
    refine ⟨Ext.refl, R, ?_⟩
    obtain ⟨p, e3, e4⟩ := is.getV (e2 xs (SqL.of e))
    show IsP K H ((ps[i]?).getD .non) x
    rw [e3]
    exact e4
  stop := fun H M E R k => by
    obtain ⟨xs, e, is⟩ := R a _ k
    exact ⟨xs, SqL.of e, by rw [is.length]; exact Nat.le_refl _⟩
/-- over a list or a tuple -/
def fISeq (fe : FE) : FI := fun ρ M R => fe ρ M fun p M1 => match p with
  | .tup xs => R (seqIt xs) M1
  | .ref a => (match M1 a with
    | some (.lst xs) => R (lstIt a xs) M1
    | _ => False)
  | _ => False
def iAny (K : PySem.W.Frag) (tl : TE) : TI := fun σ H R => tl σ H fun x H1 => ∃ a, x = .ref a ∧ (((∃ xs, SqL K H1 a xs) ∧ R (Itl K a) H1) ∨ ((∃ xs, SqT K H1 a xs) ∧ R (Itt K a) H1))
/-- over range -/
def fIRng1 (fa : FA) : FI := fun ρ M R => fa ρ M fun ps M1 => match ps with
  | [.int j] => (-(2 ^ 62) ≤ j ∧ j < 2 ^ 62) ∧ R (rngIt 0 j.toNat) M1
  | _ => False
def fIRng2 (fa : FA) : FI := fun ρ M R => fa ρ M fun ps M1 => match ps with
  | [.int i, .int j] => (-(2 ^ 62) ≤ i ∧ i < 2 ^ 62 ∧ -(2 ^ 62) ≤ j ∧ j < 2 ^ 62) ∧ R (rngIt i (j - i).toNat) M1
  | _ => False
section
variable {X : Cx} {tg : Expr} {l : Expr} {tl : TE} {fl : FE} {a b : Expr} {t : TA} {f : FA} {p pos : Pos}
theorem pi_any (hl : PE X l tl) : PI X tg l (iAny X.K tl) := ⟨fun pins st sl hp R Inv0 w => by
  refine thn (hl.run pins st sl hp _ Inv0 w) fun v s1 ⟨x, H1, I1, rx, a, ex, q⟩ => ?_
  subst ex
  cases rx
  have nw := I1.hok.fresh (Nat.le_refl s1.heap.objs.size)
  have pin : ∀ b, b ∈ [s1.heap.objs.size] → FpOk X pins H1 b := fun b hb => by
    rw [List.mem_singleton.mp hb]
    exact I1.fpOk (Nat.le_refl _) nw
  rcases q with ⟨hq, q⟩ | ⟨hq, q⟩
  · obtain ⟨xs, h1⟩ := hq
    obtain ⟨its, rv, pl, hz⟩ := I1.list h1
    refine wpAny_pyIter_list pl.isList ?_
    exact ⟨_, [s1.heap.objs.size], _, Itl X.K a, H1, rfl, I1.kept (t' := s1.toks) (fun b ob z => Heap.get?_push_of_some _ z), turn_list a _, ⟨_, Heap.get?_push_size _ rfl, rfl, rfl⟩, pin, q⟩
  · obtain ⟨xs, h1⟩ := hq
    obtain ⟨its, rv, pl, hz⟩ := I1.tuple h1
    refine wpAny_pyIter_tuple (show s1.heap.IsTuple a its.toArray from pl) ?_
    exact ⟨_, [s1.heap.objs.size], _, Itt X.K a, H1, rfl, I1.kept (t' := s1.toks) (fun b ob z => Heap.get?_push_of_some _ z), turn_tuple a _, ⟨_, Heap.get?_push_size _ rfl, rfl, rfl⟩, pin, q⟩⟩
theorem qi_seq (hl : QE X l tl fl) : QI X tg l (iAny X.K tl) (fISeq fl) := ⟨pi_any hl.p, fun σ H ρ M R Rp s r q k =>
  hl.a σ H ρ M _ _ s r q fun x H1 p1 M1 e1 r1 i1 q1 => by
    cases p1 with
    | tup ps =>
      obtain ⟨a, xs, e, sq, is⟩ := i1
      exact ⟨a, e, .inr ⟨⟨xs, sq⟩, k _ _ H1 M1 e1 r1 (itt_ok r1 sq is) q1⟩⟩
    | ref a =>
      cases m : M1 a with
      | none => simp only [m] at q1
      | some o =>
        cases o with
        | lst xs =>
          simp only [m] at q1
          obtain ⟨vs, e, is⟩ := r1 a _ m
          exact ⟨a, i1, .inl ⟨⟨vs, SqL.of e⟩, k _ _ H1 M1 e1 r1 (itl_ok m) q1⟩⟩
        | _ => simp only [m] at q1
    | _ => exact q1.elim⟩
theorem qi_rng1 (hg : Gl X "range") (hm : X.mg "range" = none) (ha : QA X [a] t f) (hs : starEach [a] X.env = [(false, eval a X.env)] := by rfl) : QI X tg (.Call (.Name "range" p) [a] [] pos) (iRng1 t) (fIRng1 f) := ⟨pi_range1 hg hm ha.p hs, fun σ H ρ M R Rp s r q k =>
  ha.a σ H ρ M _ _ s r q fun vs H1 ps M1 e1 r1 i1 q1 => by
    match ps, q1, i1 with
    | [.int j], q1, i1 =>
      obtain ⟨v, w, ev, i2, i3⟩ := i1
      have e3 := i3.nil_inv
      subst e3
      have e2 : v = V.int j := i2
      subst e2
      exact ⟨j, ev, q1.1.1, q1.1.2, k _ _ H1 M1 e1 r1 itr_ok q1.2⟩⟩
theorem qi_rng2 (hg : Gl X "range") (hm : X.mg "range" = none) (ha : QA X [a, b] t f) (hs : starEach [a, b] X.env = [(false, eval a X.env), (false, eval b X.env)] := by rfl) (hs2 : starEach [b] X.env = [(false, eval b X.env)] := by rfl) : QI X tg (.Call (.Name "range" p) [a, b] [] pos) (iRng2 t) (fIRng2 f) := ⟨pi_range2 hg hm ha.p hs hs2, fun σ H ρ M R Rp s r q k =>
  ha.a σ H ρ M _ _ s r q fun vs H1 ps M1 e1 r1 i1 q1 => by
    match ps, q1, i1 with
    | [.int i, .int j], q1, i1 =>
      obtain ⟨v, w, ev, i2, i3⟩ := i1
      obtain ⟨v2, w2, ev2, i4, i5⟩ := i3
      have e5 := i5.nil_inv
      subst e5
      have e2 : v = V.int i := i2
      have e4 : v2 = V.int j := i4
      subst e2 e4 ev2
      exact ⟨i, j, ev, q1.1, k _ _ H1 M1 e1 r1 itr_ok q1.2⟩⟩
end

/-! ### for -/
def ForB (J : PIt) (M1 : Mp) (g : FG) (fb : FS) (D : PEnds) (ρ : PSt) : Prop := ∃ W : Nat → PSt → Mp → Prop, W 0 ρ M1 ∧
  (∀ i ρ' M', i < J.n → W i ρ' M' → J.keep M' ∧ g (J.item i) ρ' M' fun ρ2 M2 => fb { D with nx := W (i + 1), ct := W (i + 1), bk := D.nx } ρ2 M2) ∧
  (∀ ρ' M', W J.n ρ' M' → J.keep M' ∧ D.nx ρ' M')
def fFor (fi : FI) (g : FG) (fb : FS) : FS := fun D ρ M => fi ρ M fun J M1 => ForB J M1 g fb D ρ
theorem as_for {K : PySem.W.Frag} {wi : TI} {fi : FI} {tg : TG} {fg : FG} {tb : TS} {fb : FS} (hi : AI K wi fi) (hg : AG K tg fg) (hb : AS K tb fb) : AS K (tFor wi tg tb) (fFor fi fg fb) := fun D Dp σ H ρ M s R q l =>
  hi σ H ρ M _ _ s R q fun J Jp H1 M1 e1 r1 ok ⟨W, w0, turn, done⟩ => by
    refine ⟨fun i m σ' H' => ∃ ρ' M', Ext H1 M1 H' M' ∧ Rep K H' M' ∧ IsS K H' σ' ρ' ∧ i ≤ Jp.n ∧ m = Jp.n - i ∧ W i ρ' M', ⟨_, ρ, M1, Ext.refl, r1, s.ext R e1, Nat.zero_le _, rfl, w0⟩, ?_⟩
    rintro i m σ2 H2 ⟨ρ2, M2, e2, r2, s2, hi, rfl, w2⟩
    by_cases lt : i < Jp.n
    · obtain ⟨kp, tr⟩ := turn i ρ2 M2 lt w2
      refine .inr ⟨ok.go i H2 M2 e2 r2 kp lt, _, fun σ' H' z => z, fun x H3 y => ?_⟩
      obtain ⟨e3, r3, i3⟩ := ok.yld i H2 M2 x H3 e2 r2 kp lt y
      refine hg x _ σ2 H3 ρ2 M2 _ _ i3 (s2.ext r2 e3) r3 tr fun σ4 H4 ρ4 M4 e4 r4 s4 q4 => ?_
      have ee := (e2.trans e3).trans e4
      have nx : LkN K H4 M4 (fun σ' H' => ∃ m', m' < Jp.n - i ∧ ∃ ρ' M', Ext H1 M1 H' M' ∧ Rep K H' M' ∧ IsS K H' σ' ρ' ∧ i + 1 ≤ Jp.n ∧ m' = Jp.n - (i + 1) ∧ W (i + 1) ρ' M') (W (i + 1)) := fun σ' H' ρ' M' e5 r5 s5 q5 =>
        ⟨_, by omega, ρ', M', ee.trans e5, r5, s5, lt, rfl, q5⟩
      exact hb _ _ σ4 H4 ρ4 M4 s4 r4 q4 ⟨nx, l.rt.ext (e1.trans ee), l.nx.ext (e1.trans ee), nx⟩
    · have ei : i = Jp.n := by omega
      subst ei
      obtain ⟨kp, fin⟩ := done ρ2 M2 w2
      exact .inl ⟨ok.stop H2 M2 e2 r2 kp, l.nx σ2 H2 ρ2 M2 (e1.trans e2) r2 s2 fin⟩
theorem qs_for {X : Cx} {tg iter : Expr} {body : List Stmt} {wi : TI} {fi : FI} {gt : TG} {fg : FG} {tb : TS} {fb : FS} {pos : Pos} (hp : PassesOwn (model X.prog X.w) X.A X.env X.xe) (hc : X.calm = true) (hi : QI X tg iter wi fi) (hg : QG X tg gt fg) (hb : QSs X body tb fb) (hs : ∀ x, foldedSetIterable iter X.env x = pure x := by intro _; rfl) :
    QS X (.For tg iter body [] pos) (tFor wi gt tb) (fFor fi fg fb) := ⟨ps_for hp hc hi.p hg.p hb.p hs, as_for hi.a hg.a hb.a⟩

/-! ### comprehensions: one for, a name as target, any tests -/
def fYes : FT := fun _ M T _ => T M
structure QTs (X : Cx) (ifs : List Expr) (t : TT) (f : FT) : Prop where
  p : PTs X ifs t
  a : AT X.K t f
theorem qts_nil {X : Cx} : QTs X [] tYes fYes := ⟨pts_nil, fun σ H ρ M Q T F s R q hT hF => hT H M Ext.refl R q⟩
theorem qts_one {X : Cx} {c : Expr} {t : TT} {f : FT} (h : QT X c t f) : QTs X [c] t f := ⟨pts_one h.p, h.a⟩
def LcB (J : PIt) (M1 : Mp) (i : Nat) (ft : FT) (fe : FE) (ρ : PSt) (Q : KE) : Prop := ∀ D, M1 D = none → ∃ G : Nat → List P → Mp → Prop, (∀ M', Le M1 M' → M' D = some (.lst []) → G 0 [] M') ∧
  (∀ k acc M', k < J.n → Le M1 M' → M' D = some (.lst acc) → G k acc M' → acc.length < sizeLine ∧ ft (setS (clrS ρ i) i (J.item k)) M' (fun M2 => fe (setS (clrS ρ i) i (J.item k)) M2 fun y M3 => Le M' M3 ∧ ∀ M4, LeX D M3 M4 → M4 D = some (.lst (acc ++ [y])) → G (k + 1) (acc ++ [y]) M4) (fun M2 => Le M' M2 ∧ G (k + 1) acc M2)) ∧
  (∀ acc M', Le M1 M' → M' D = some (.lst acc) → G J.n acc M' → Q (.ref D) M')
def fLc (fi : FI) (i : Nat) (ft : FT) (fe : FE) : FE := fun ρ M Q => fi ρ M fun J M1 => LcB J M1 i ft fe ρ Q
theorem set_wipe (σ : L2.St) (i : Nat) (v : Option V) : wipe ((wipe σ [i]).set i v) [i] = wipe σ [i] := by
  show ((σ.set i none).set i v).set i none = σ.set i none
  rw [List.set_set, List.set_set]
theorem ae_lc {K : PySem.W.Frag} {wi : TI} {fi : FI} {i : Nat} {tt : TT} {ft : FT} {te : TE} {fe : FE} (hi : AI K wi fi) (ht : AT K tt ft) (he : AE K te fe) : AE K (tLc wi (gName i) tt te [i]) (fLc fi i ft fe) := fun σ H ρ M Q Qp s R q l =>
  hi σ H ρ M _ _ s R q fun J Jp H1 M1 e1 r1 ok LB => by
    intro D nD
    have s1 := s.ext R e1
    have mD := r1.none nD
    obtain ⟨G, g0, turn, done⟩ := LB D mD
    have k0 : MOk K (upd H1 D (.lst [])) (updM M1 D (.lst [])) D (.lst []) := ⟨[], upd_same, IsPs.nil⟩
    refine ⟨fun k m H' => ∃ acc M', Ext H1 M1 H' M' ∧ Rep K H' M' ∧ M' D = some (.lst acc) ∧ Le M1 M' ∧ k ≤ Jp.n ∧ m = Jp.n - k ∧ G k acc M',
      ⟨_, [], _, Ext.newM nD, r1.newM nD k0, updM_same, Le.upd mD, Nat.zero_le _, rfl, g0 _ (Le.upd mD) updM_same⟩, ?_⟩
    rintro k m H2 ⟨acc, M2, e2, r2, hD, l2, hk, rfl, w2⟩
    by_cases lt : k < Jp.n
    · obtain ⟨sz, tr⟩ := turn k acc M2 lt l2 hD w2
      have kp := PIt.keep_le ok.ini l2
      refine .inr ⟨ok.go k H2 M2 e2 r2 kp lt, _, fun H' z => z, fun x H3 y => ?_⟩
      obtain ⟨e3, r3, i3⟩ := ok.yld k H2 M2 x H3 e2 r2 kp lt y
      have ee := e2.trans e3
      have sx : IsS K H3 ((wipe σ [i]).set i (some x)) (setS (clrS ρ i) i (Jp.item k)) := ((s1.ext r1 ee).wipe [i]).set i3
      refine ⟨set_wipe σ i (some x), ht _ H3 _ M2 _ _ _ sx r3 tr (fun H4 M4 e4 r4 q4 => ?_) (fun H4 M4 e4 r4 q4 => ?_)⟩
      · show if true = true then _ else _
        rw [if_pos rfl]
        refine he _ H4 _ M4 _ _ (sx.ext r3 e4) r4 q4 fun z H5 p5 M5 e5 r5 i5 q5 => ?_
        obtain ⟨l5, g5⟩ := q5
        have h5 := l5 D _ hD
        obtain ⟨vs, hv, is⟩ := r5 D _ h5
        have k6 : MOk K (upd H5 D (.lst (vs ++ [z]))) (updM M5 D (.lst (acc ++ [p5]))) D (.lst (acc ++ [p5])) := ⟨_, upd_same, r5.isPs (Ext.write (m' := MO.lst (acc ++ [p5])) h5) (is.append (IsPs.cons i5 IsPs.nil))⟩
        exact ⟨vs, hv, by rw [is.length]; exact sz, _, by omega, _, _, ((ee.trans e4).trans e5).trans (Ext.write h5), r5.write h5 k6, updM_same, (l2.trans l5).x mD LeX.upd, lt, rfl, g5 _ LeX.upd updM_same⟩
      · show if false = true then _ else _
        rw [if_neg Bool.false_ne_true]
        obtain ⟨l4, g4⟩ := q4
        exact ⟨_, by omega, acc, M4, ee.trans e4, r4, l4 D _ hD, l2.trans l4, lt, rfl, g4⟩
    · have ek : k = Jp.n := by omega
      subst ek
      exact .inl ⟨ok.stop H2 M2 e2 r2 (PIt.keep_le ok.ini l2), l (.ref D) H2 (.ref D) M2 (e1.trans e2) r2 rfl (done acc M2 l2 hD w2)⟩
theorem qe_lc {X : Cx} {elt iter : Expr} {x : Str} {px : Pos} {ifs : List Expr} {scope : Scope} {i : Nat} {pos : Pos} {wi : TI} {fi : FI} {tt : TT} {ft : FT} {te : TE} {fe : FE} (hc : X.calm = true) (hN : X.N.Nodup) (hi : QI X (.Name x px) iter wi fi) (ok : BlkOk X.N X.env.scope scope [(x, i)])
    (hg : ∀ (s : Shared) (H : Hp) (C : Addr) (cl : List (Str × Addr)) (fp : List Addr), PG (X.blk s H scope (compEnvC scope cl C X.env) fp) (.Name x px) (gName i)) (ht : ∀ (s : Shared) (H : Hp) (C : Addr) (cl : List (Str × Addr)) (fp : List Addr), QTs (X.blk s H scope (compEnvC scope cl C X.env) fp) ifs tt ft)
    (he : ∀ (s : Shared) (H : Hp) (C : Addr) (cl : List (Str × Addr)) (fp : List Addr), QE (X.blk s H scope (compEnvC scope cl C X.env) fp) elt te fe) (hs : ∀ x, foldedSetIterable iter X.env x = pure x := by intro _; rfl) :
    QE X (.ListComp elt [⟨.Name x px, iter, ifs, 0⟩] scope pos) (tLc wi (gName i) tt te [i]) (fLc fi i ft fe) :=
  ⟨pe_lc (own := [(x, i)]) hc hN hi.p ok hg (fun a b c d e => (ht a b c d e).p) (fun a b c d e => (he a b c d e).p) hs, ae_lc hi.a (ht X.s_0 X.H_0 0 [] []).a (he X.s_0 X.H_0 0 [] []).a⟩
/-- y = [..] -/
theorem qs_setLc {X : Cx} {j : Nat} {y : Str} {py : Pos} {elt iter : Expr} {x : Str} {px : Pos} {ifs : List Expr} {scope : Scope} {i : Nat} {pos spos : Pos} {wi : TI} {fi : FI} {tt : TT} {ft : FT} {te : TE} {fe : FE} (hc : X.calm = true) (hN : X.N.Nodup) (hy : X.N[j]? = some y) (hyl : X.env.scope.names.lookup y = some .local)
    (hsw : swapsWith (.ListComp elt [⟨.Name x px, iter, ifs, 0⟩] scope pos) (some (.Name y py)) spos.line X.env = pure true) (hi : QI X (.Name x px) iter wi fi) (ok : BlkOk X.N X.env.scope scope [(x, i)])
    (hg : ∀ (s : Shared) (H : Hp) (C : Addr) (cl : List (Str × Addr)) (fp : List Addr), PG (X.blk s H scope (compEnvC scope cl C X.env) fp) (.Name x px) (gName i)) (ht : ∀ (s : Shared) (H : Hp) (C : Addr) (cl : List (Str × Addr)) (fp : List Addr), QTs (X.blk s H scope (compEnvC scope cl C X.env) fp) ifs tt ft)
    (he : ∀ (s : Shared) (H : Hp) (C : Addr) (cl : List (Str × Addr)) (fp : List Addr), QE (X.blk s H scope (compEnvC scope cl C X.env) fp) elt te fe) (hs : ∀ x, foldedSetIterable iter X.env x = pure x := by intro _; rfl) :
    QS X (.Assign [.Name y py] (.ListComp elt [⟨.Name x px, iter, ifs, 0⟩] scope pos) spos) (tAsg (tLc wi (gName i) tt te [i]) (gName j)) (fAsg (fLc fi i ft fe) (fGName j)) :=
  ⟨ps_setLc (own := [(x, i)]) hc hN hy hyl hsw hi.p ok hg (fun a b c d e => (ht a b c d e).p) (fun a b c d e => (he a b c d e).p) hs, as_asg (ae_lc hi.a (ht X.s_0 X.H_0 0 [] []).a (he X.s_0 X.H_0 0 [] []).a) ag_name⟩
end CR

set_option Elab.async false
set_option linter.all false
set_option maxRecDepth 100000
set_option maxHeartbeats 4000000
/-! PV5: list methods, built-ins, slices, text methods over pure values. -/
namespace CR
open PySem PySem.Spec L2

/-! ### a sequence -/
def lenOf (M : Mp) : P → Option Nat
  | .tup xs => some xs.length
  | .ref a => (match M a with
    | some (.lst xs) => some xs.length
    | _ => none)
  | _ => none
def pLen : RP := fun ps M Q => match ps with
  | [.str z] => z.length ≤ sizeLine ∧ Q (.int z.length) M
  | [.tup xs] => Q (.int xs.length) M
  | [.ref a] => (match M a with
    | some (.lst xs) => Q (.int xs.length) M
    | _ => False)
  | _ => False
section
variable {K : PySem.W.Frag} {H : Hp} {M : Mp}
theorem one_inv {p : P} {vs : List V} (h : IsPs K H [p] vs) : ∃ v, vs = [v] ∧ IsP K H p v := by
  obtain ⟨v, r, e, h1, h2⟩ := h
  rw [h2.nil_inv] at e
  exact ⟨v, e, h1⟩
theorem two_inv {p q : P} {vs : List V} (h : IsPs K H [p, q] vs) : ∃ v w, vs = [v, w] ∧ IsP K H p v ∧ IsP K H q w := by
  obtain ⟨v, r, e, h1, h2⟩ := h
  obtain ⟨w, e2, h3⟩ := one_inv h2
  rw [e2] at e
  exact ⟨v, w, e, h1, h3⟩
theorem ac_len : AC K (fun xs H Q => ∃ x n, xs = [x] ∧ LenV K x H n ∧ Q (.int n) H) pLen := fun vs ps H M Q Qp hv R h l => by
  match ps, h, hv with
  | [.str z], h, hv =>
    obtain ⟨v, e, i⟩ := one_inv hv
    have i' : v = V.str z := i
    subst i'
    exact ⟨_, z.length, e, ⟨h.1, rfl⟩, l.at R h.2 rfl⟩
  | [.tup xs], h, hv =>
    obtain ⟨v, e, a, ys, i, sq, is⟩ := one_inv hv
    subst i
    exact ⟨_, xs.length, e, .inr ⟨ys, sq, is.length.symm⟩, l.at R h rfl⟩
  | [.ref a], h, hv =>
    obtain ⟨v, e, i⟩ := one_inv hv
    have i' : v = V.ref a := i
    subst i'
    cases m : M a with
    | none => simp only [pLen, m] at h
    | some o =>
      cases o with
      | lst xs =>
        simp only [pLen, m] at h
        obtain ⟨ys, e2, is⟩ := R a _ m
        exact ⟨_, xs.length, e, .inl ⟨ys, SqL.of e2, is.length.symm⟩, l.at R h rfl⟩
      | _ => simp only [pLen, m] at h
/-- tuple(x) -/
def pTuple : RP := fun ps M Q => match ps with
  | [.tup xs] => Q (.tup xs) M
  | [.ref a] => (match M a with
    | some (.lst xs) => Q (.tup xs) M
    | _ => False)
  | _ => False
theorem ac_tuple : AC K (fun xs H Q => ∃ p ys, xs = [.ref p] ∧ ((SqL K H p ys ∧ ∀ l, H l = none → Q (.ref l) (upd H l (.tup ys))) ∨ (SqT K H p ys ∧ Q (.ref p) H))) pTuple := fun vs ps H M Q Qp hv R h l => by
  match ps, h, hv with
  | [.tup xs], h, hv =>
    obtain ⟨v, e, a, ys, i, sq, is⟩ := one_inv hv
    subst i
    exact ⟨a, ys, e, .inr ⟨sq, l.at R h ⟨a, ys, rfl, sq, is⟩⟩⟩
  | [.ref a], h, hv =>
    obtain ⟨v, e, i⟩ := one_inv hv
    have i' : v = V.ref a := i
    subst i'
    cases m : M a with
    | none => simp only [pTuple, m] at h
    | some o =>
      cases o with
      | lst xs =>
        simp only [pTuple, m] at h
        obtain ⟨ys, e2, is⟩ := R a _ m
        exact ⟨a, ys, e, .inl ⟨SqL.of e2, fun b n => l.new R n h ⟨b, ys, rfl, SqT.of upd_same, R.isPs (Ext.new n) is⟩⟩⟩
      | _ => simp only [pTuple, m] at h
/-- list(x) -/
def pList : RP := fun ps M Q => match ps with
  | [.tup xs] => ∀ b M', M b = none → Le M M' → M' b = some (.lst xs) → Q (.ref b) M'
  | [.ref a] => (match M a with
    | some (.lst xs) => ∀ b M', M b = none → Le M M' → M' b = some (.lst xs) → Q (.ref b) M'
    | _ => False)
  | _ => False
theorem lk_list {Q : VK} {Qp : KE} (l : Lk K H M Q Qp) (R : Rep K H M) {xs : List P} {ys : List V} (is : IsPs K H xs ys) (h : ∀ b M', M b = none → Le M M' → M' b = some (.lst xs) → Qp (.ref b) M') : ∀ b, H b = none → Q (.ref b) (upd H b (.lst ys)) := fun b n => by
  have k : MOk K (upd H b (.lst ys)) (updM M b (.lst xs)) b (.lst xs) := ⟨ys, upd_same, R.isPs (Ext.newM (m := .lst xs) n) is⟩
  exact l.newM R n k (h b _ (R.none n) (Le.upd (R.none n)) updM_same) rfl
theorem ac_list : AC K (fun xs H Q => ∃ p ys, xs = [.ref p] ∧ (SqL K H p ys ∨ SqT K H p ys) ∧ ∀ l, H l = none → Q (.ref l) (upd H l (.lst ys))) pList := fun vs ps H M Q Qp hv R h l => by
  match ps, h, hv with
  | [.tup xs], h, hv =>
    obtain ⟨v, e, a, ys, i, sq, is⟩ := one_inv hv
    subst i
    exact ⟨a, ys, e, .inr sq, lk_list l R is h⟩
  | [.ref a], h, hv =>
    obtain ⟨v, e, i⟩ := one_inv hv
    have i' : v = V.ref a := i
    subst i'
    cases m : M a with
    | none => simp only [pList, m] at h
    | some o =>
      cases o with
      | lst xs =>
        simp only [pList, m] at h
        obtain ⟨ys, e2, is⟩ := R a _ m
        exact ⟨a, ys, e, .inl (SqL.of e2), lk_list l R is h⟩
      | _ => simp only [pList, m] at h
/-- sum of ints: a list or a tuple -/
def pSum : RP := fun ps M Q => match ps with
  | [.ref a] => (match M a with
    | some (.lst xs) => ∃ ns : List Int, xs = ns.map P.int ∧ Q (.int ns.sum) M
    | _ => False)
  | [.tup xs] => ∃ ns : List Int, xs = ns.map P.int ∧ Q (.int ns.sum) M
  | _ => False
def rSumA (K : PySem.W.Frag) : List V → Hp → VK → Prop := fun vs H Q => ∃ (a : Addr) (ns : List Int), vs = [V.ref a] ∧ (SqL K H a (ns.map V.int) ∨ SqT K H a (ns.map V.int)) ∧ Q (.int ns.sum) H
theorem ac_sum : AC K (rSumA K) pSum := fun vs ps H M Q Qp hv R h l => by
  match ps, h, hv with
  | [.tup xs], h, hv =>
    obtain ⟨v, e, a, ys, i, sq, is⟩ := one_inv hv
    subst i
    obtain ⟨ns, rfl, q⟩ := h
    rw [is.ints] at sq
    exact ⟨a, ns, e, .inr sq, l.at R q rfl⟩
  | [.ref a], h, hv =>
    obtain ⟨v, e, i⟩ := one_inv hv
    have i' : v = V.ref a := i
    subst i'
    cases m : M a with
    | none => simp only [pSum, m] at h
    | some o =>
      cases o with
      | lst xs =>
        simp only [pSum, m] at h
        obtain ⟨ns, rfl, q⟩ := h
        obtain ⟨ys, e2, is⟩ := R a _ m
        rw [is.ints] at e2
        exact ⟨a, ns, e, .inl (SqL.of e2), l.at R q rfl⟩
      | _ => simp only [pSum, m] at h
/-- all of a list of bools -/
def pAll : RP := fun ps M Q => match ps with
  | [.ref a] => (match M a with
    | some (.lst xs) => ∃ bs : List Bool, xs = bs.map P.bl ∧ Q (.bl (bs.all id)) M
    | _ => False)
  | _ => False
theorem ac_all : AC K (rAll K) pAll := fun vs ps H M Q Qp hv R h l => by
  match ps, h, hv with
  | [.ref a], h, hv =>
    obtain ⟨v, e, i⟩ := one_inv hv
    have i' : v = V.ref a := i
    subst i'
    cases m : M a with
    | none => simp only [pAll, m] at h
    | some o =>
      cases o with
      | lst xs =>
        simp only [pAll, m] at h
        obtain ⟨ns, rfl, q⟩ := h
        obtain ⟨ys, e2, is⟩ := R a _ m
        rw [is.bls] at e2
        exact ⟨a, ns, e, SqL.of e2, l.at R q rfl⟩
      | _ => simp only [pAll, m] at h
def pMax2 : RP := fun ps M Q => match ps with
  | [.int i, .int j] => Q (.int (if j > i then j else i)) M
  | _ => False
def pMin2 : RP := fun ps M Q => match ps with
  | [.int i, .int j] => Q (.int (if j < i then j else i)) M
  | _ => False
theorem ac_max2 : AC K (fun xs H Q => ∃ i j, xs = [.int i, .int j] ∧ Q (.int (if j > i then j else i)) H) pMax2 := fun vs ps H M Q Qp hv R h l => by
  match ps, h, hv with
  | [.int i, .int j], h, hv =>
    obtain ⟨v, w, e, i1, i2⟩ := two_inv hv
    cases (show v = V.int i from i1); cases (show w = V.int j from i2)
    exact ⟨i, j, e, l.at R h rfl⟩
theorem ac_min2 : AC K (fun xs H Q => ∃ i j, xs = [.int i, .int j] ∧ Q (.int (if j < i then j else i)) H) pMin2 := fun vs ps H M Q Qp hv R h l => by
  match ps, h, hv with
  | [.int i, .int j], h, hv =>
    obtain ⟨v, w, e, i1, i2⟩ := two_inv hv
    cases (show v = V.int i from i1); cases (show w = V.int j from i2)
    exact ⟨i, j, e, l.at R h rfl⟩
def pGcd : RP := fun ps M Q => match ps with
  | [.int i, .int j] => Q (.int ((Nat.gcd i.natAbs j.natAbs : Nat) : Int)) M
  | _ => False
theorem ac_gcd : AC K rGcd pGcd := fun vs ps H M Q Qp hv R h l => by
  match ps, h, hv with
  | [.int i, .int j], h, hv =>
    obtain ⟨v, w, e, i1, i2⟩ := two_inv hv
    cases (show v = V.int i from i1); cases (show w = V.int j from i2)
    exact ⟨i, j, e, l.at R h rfl⟩
/-- int(x) of an int, a bool, a text -/
def pInt : RP := fun ps M Q => match ps with
  | [.int i] => Q (.int i) M
  | [.bl k] => Q (.int (if k then 1 else 0)) M
  | [.str z] => ∃ n, PySem.intText? z = some n ∧ z.length ≤ 640 ∧ Q (.int n) M
  | _ => False
def rInt : List V → Hp → VK → Prop := fun xs H Q => ((∃ i, xs = [.int i] ∧ Q (.int i) H) ∨ ∃ k, xs = [.bl k] ∧ Q (.int (if k then 1 else 0)) H) ∨ (∃ a n, xs = [.str a] ∧ PySem.intText? a = some n ∧ a.length ≤ 640 ∧ Q (.int n) H)
theorem cr_int {X : Cx} : CallR X (.type "int") rInt := fun pins s σ H xs us Q I r h => by
  rcases h with h | h
  · exact call_int1 pins s σ H xs us Q I r h
  · exact call_int_str pins s σ H xs us Q I r h
theorem ac_int : AC K rInt pInt := fun vs ps H M Q Qp hv R h l => by
  match ps, h, hv with
  | [.int i], h, hv =>
    obtain ⟨v, e, i1⟩ := one_inv hv
    cases (show v = V.int i from i1)
    exact .inl (.inl ⟨i, e, l.at R h rfl⟩)
  | [.bl i], h, hv =>
    obtain ⟨v, e, i1⟩ := one_inv hv
    cases (show v = V.bl i from i1)
    exact .inl (.inr ⟨i, e, l.at R h rfl⟩)
  | [.str z], h, hv =>
    obtain ⟨v, e, i1⟩ := one_inv hv
    cases (show v = V.str z from i1)
    obtain ⟨n, h1, h2, q⟩ := h
    exact .inr ⟨z, n, e, h1, h2, l.at R q rfl⟩
def pStr : RP := fun ps M Q => match ps with
  | [.int i] => i.natAbs.log2 < 1920 ∧ Q (.str (toString i)) M
  | _ => False
theorem ac_str : AC K (fun xs H Q => ∃ i, xs = [.int i] ∧ i.natAbs.log2 < 1920 ∧ Q (.str (toString i)) H) pStr := fun vs ps H M Q Qp hv R h l => by
  match ps, h, hv with
  | [.int i], h, hv =>
    obtain ⟨v, e, i1⟩ := one_inv hv
    cases (show v = V.int i from i1)
    exact ⟨i, e, h.1, l.at R h.2 rfl⟩
def pOrd : RP := fun ps M Q => match ps with
  | [.str z] => z.length = 1 ∧ Q (.int (z.cps.getD 0 0 : Nat)) M
  | _ => False
theorem ac_ord : AC K (fun xs H Q => ∃ x, xs = [.str x] ∧ x.length = 1 ∧ Q (.int (x.cps.getD 0 0 : Nat)) H) pOrd := fun vs ps H M Q Qp hv R h l => by
  match ps, h, hv with
  | [.str z], h, hv =>
    obtain ⟨v, e, i1⟩ := one_inv hv
    cases (show v = V.str z from i1)
    exact ⟨z, e, h.1, l.at R h.2 rfl⟩
def pAbs : RP := fun ps M Q => match ps with
  | [.int i] => Q (.int (if i < 0 then -i else i)) M
  | _ => False
theorem ac_abs : AC K (fun xs H Q => ∃ i, xs = [.int i] ∧ Q (.int (if i < 0 then -i else i)) H) pAbs := fun vs ps H M Q Qp hv R h l => by
  match ps, h, hv with
  | [.int i], h, hv =>
    obtain ⟨v, e, i1⟩ := one_inv hv
    cases (show v = V.int i from i1)
    exact ⟨i, e, l.at R h rfl⟩
end
theorem cr_sumA {X : Cx} (hc : X.calm = true) : CallR X (.builtin "sum") (rSumA X.K) := fun pins s σ H vs us Q Iv r h => by
  obtain ⟨a, ns, e, hs, q⟩ := h
  rcases hs with hs | hs
  · exact cr_sum hc pins s σ H vs us Q Iv r ⟨a, ns, e, hs, q⟩
  · subst e
    obtain ⟨its, rv, ht, _⟩ := Iv.tuple hs
    obtain ⟨xs, e2⟩ := rv.ints.allInts.items
    have hn : numsOf (intItems xs).toList = ns := by rw [← e2]; exact rv.ints.numsOf
    rw [nums_intItems] at hn
    rw [e2] at ht
    rw [Vals.ref1 r]
    have hlt : a < s.heap.objs.size := by obtain ⟨_, z, _⟩ := ht; exact Heap.lt_size z
    refine PySem.call_sum_walkG (PySem.wpAny_pyIter_tuple (show s.heap.IsTuple a (intItems xs) from ht) ?_)
    refine ⟨s.heap.objs.size, _, _, _, _, _, PySem.numAt xs, rfl, PySem.Walks.tuple (A := X.A.in1) (Iv.ok.hd hc) _ a (Nat.ne_of_lt hlt) (intItems xs), ⟨⟨_, Heap.get?_push_size _ rfl, rfl, rfl⟩, ?_⟩, ?_, (fun _ _ => PySem.intItems_at), fun h' tk t' hk => ?_⟩
    · obtain ⟨o, z, z2⟩ := ht
      exact ⟨o, Heap.get?_push_of_some _ z, z2⟩
    · intro b hb
      show b < (s.heap.push _).objs.size
      rw [Heap.size_push]
      rcases List.mem_cons.mp hb with rfl | hb
      · exact Nat.lt_succ_self _
      · rw [List.mem_singleton.mp hb]; exact Nat.lt_succ_of_lt hlt
    · have hp : PySem.preSum (PySem.numAt xs) (intItems xs).size = ns.sum := by
        rw [← hn, show (intItems xs).size = xs.size by simp [PySem.intItems], PySem.preSum_eq, List.take_of_length_le (by simp)]
      rw [hp]
      exact ⟨.int ns.sum, H, Iv.kept (fun b o z => hk b o (fun hm => by
        rw [List.mem_singleton.mp hm] at z
        exact absurd (Heap.lt_size z) (Nat.lt_irrefl _)) (Heap.get?_push_of_some _ z)), ⟨_, rfl⟩, q⟩
end CR

set_option Elab.async false
set_option linter.all false
set_option maxRecDepth 100000
set_option maxHeartbeats 4000000
/-! PV6: list methods, stores by place, slices, joins, text methods, deep ==, isinstance. -/
namespace CR
open PySem PySem.Spec L2

/-! ### list methods -/
theorem ext_meets (l b : Addr) (items items2 : Array Value) (n : Nat) (h1 : items.size ≤ sizeLine) (h2 : items.size + items2.size ≤ sizeLine) :
    Meets (Builtin.«list.extend» ⟨[.ref l, .ref b], []⟩) (fun _ R s => s.heap.get? l = some { cls := .type "list", data := .seq items n } ∧ (∃ o n2, s.heap.get? b = some o ∧ o.cls = .type "tuple" ∧ o.data = .seq items2 n2) ∧
      R (.ok (.ret Value.none)) { s with heap := s.heap.update l (Obj.mapSeq fun x => x ++ items2) }) :=
  .of_wp fun prog w A R s h => by
    obtain ⟨hl, ⟨o, n2, hb, hc, hd⟩, hR⟩ := h
    show wpAny _ _ (Builtin.List.listExtendWith (.ref l) (.ref b) .none) _ _ s
    unfold Builtin.List.listExtendWith
    refine wpAny_bind (wpAny_typeOf ⟨o, hb, hc⟩ ?_)
    have e1 : (Builtin.List.listSameRef (.ref l) (.ref b) || Value.type "tuple" == Value.type "list" || Value.type "tuple" == Value.type "tuple") = true := by simp
    simp only [e1, if_true]
    refine wpAny_bind ?_
    unfold Builtin.List.listItems
    refine wpAny_bind (wpAny_seqItems hb hd (wpAny_pure ?_))
    refine wpAny_bind ?_
    refine wpAny_bind (wpAny_seqItems hl rfl (wpAny_pure ?_))
    have e2 : Builtin.List.listTooLong (items.size + items2.size) = false := notLongL h2
    simp only [e2, Bool.and_false]
    show wpAny _ _ (updateSeq l (· ++ items2) >>= fun _ => ret Value.none) _ _ s
    refine wpAny_bind (wpAny_updateSeq hl rfl ?_)
    exact wpAny_pure ⟨_, rfl, hR⟩
/-- xs.extend(ys), ys a list or a tuple -/
def rExtendA (K : PySem.W.Frag) : V → List V → Hp → VK → Prop := fun x vs H Q => ∃ l b xs zs, x = .ref l ∧ vs = [.ref b] ∧ H l = some (.lst xs) ∧ (H b = some (.lst zs) ∨ SqT K H b zs) ∧ xs.length + zs.length ≤ sizeLine ∧ Q .non (upd H l (.lst (xs ++ zs)))
theorem mt_extendA {X : Cx} : MtR X "list.extend" (rExtendA X.K) := fun pins s σ H x vs v us Q Iv rx rv h => by
  obtain ⟨l, b, xs, zs, e1, e2, hl, hb, hz, q⟩ := h
  rcases hb with hb | hb
  · exact mt_extend pins s σ H x vs v us Q Iv rx rv ⟨l, b, xs, zs, e1, e2, hl, hb, hz, q⟩
  · subst e1 e2
    cases rx
    obtain ⟨u, rfl, ru⟩ := rv.one
    cases ru
    obtain ⟨z, its, n, r, hll, e⟩ := Iv.lstM hl
    obtain ⟨its2, r2, ⟨o, ho, hc, n2, hd⟩, _⟩ := Iv.tuple hb
    have l2 := r2.length
    refine call_meets F.slot_list_extend ⟨_, e, rfl⟩ F.entry_list_extend (F.args_list_extend_2 _ _) (ext_meets l b its.toArray its2.toArray n (by rw [List.size_toArray]; omega) (by rw [List.size_toArray, List.size_toArray]; omega)) ⟨e, ⟨o, n2, ho, hc, hd⟩, ?_⟩
    exact ⟨.non, _, Iv.lset (its' := its ++ its2) (t' := s.toks) hl e (by simp) (r.append r2) (by rw [List.length_append]; omega), rfl, q⟩
def pAppend : RMP := fun x ps M Q => match x, ps with
  | .ref a, [y] => (match M a with
    | some (.lst xs) => xs.length < sizeLine ∧ ∀ M', LeX a M M' → M' a = some (.lst (xs ++ [y])) → Q .non M'
    | _ => False)
  | _, _ => False
def pExtend : RMP := fun x ps M Q => match x, ps with
  | .ref a, [.tup ys] => (match M a with
    | some (.lst xs) => xs.length + ys.length ≤ sizeLine ∧ ∀ M', LeX a M M' → M' a = some (.lst (xs ++ ys)) → Q .non M'
    | _ => False)
  | .ref a, [.ref b] => (match M a, M b with
    | some (.lst xs), some (.lst ys) => xs.length + ys.length ≤ sizeLine ∧ ∀ M', LeX a M M' → M' a = some (.lst (xs ++ ys)) → Q .non M'
    | _, _ => False)
  | _, _ => False
def pInsert : RMP := fun x ps M Q => match x, ps with
  | .ref a, [.int i, y] => (match M a with
    | some (.lst xs) => xs.length < sizeLine ∧ 0 ≤ i ∧ i < 2 ^ 63 ∧ ∀ M', LeX a M M' → M' a = some (.lst (xs.take i.toNat ++ [y] ++ xs.drop i.toNat)) → Q .non M'
    | _ => False)
  | _, _ => False
/-- xs.pop(i), 0 <= i -/
def pPop : RMP := fun x ps M Q => match x, ps with
  | .ref a, [.int i] => (match M a with
    | some (.lst xs) => 0 ≤ i ∧ i < 2 ^ 63 ∧ (∃ y, xs[i.toNat]? = some y ∧ ∀ M', LeX a M M' → M' a = some (.lst (xs.eraseIdx i.toNat)) → Q y M')
    | _ => False)
  | _, _ => False
section
variable {K : PySem.W.Frag} {H : Hp} {M : Mp}
theorem lk_lst {Q : VK} {Qp : KE} (l : Lk K H M Q Qp) (R : Rep K H M) {a : Addr} {xs ys : List P} {vs : List V} {p : P} {v : V} (m : M a = some (.lst xs)) (is : IsPs K H ys vs) (iv : IsP K H p v) (h : ∀ M', LeX a M M' → M' a = some (.lst ys) → Qp p M') : Q v (upd H a (.lst vs)) := by
  have k : MOk K (upd H a (.lst vs)) (updM M a (.lst ys)) a (.lst ys) := ⟨vs, upd_same, R.isPs (Ext.write (m' := .lst ys) m) is⟩
  exact l.write R m k (h _ LeX.upd updM_same) (R.isP (Ext.write (m' := .lst ys) m) iv)
theorem am_append : AM K rAppend pAppend := fun x p vs ps H M Q Qp ix iv R h l => by
  match p, ps, h, ix, iv with
  | .ref a, [y], h, ix, iv =>
    cases (show x = V.ref a from ix)
    obtain ⟨v, e, i⟩ := one_inv iv
    cases m : M a with
    | none => simp only [pAppend, m] at h
    | some o =>
      cases o with
      | lst xs =>
        simp only [pAppend, m] at h
        obtain ⟨ws, e2, is⟩ := R a _ m
        exact ⟨a, ws, v, rfl, e, e2, by rw [is.length]; exact h.1, lk_lst l R m (is.append (IsPs.cons i IsPs.nil)) (p := .non) rfl h.2⟩
      | _ => simp only [pAppend, m] at h
theorem am_extend : AM K (rExtendA K) pExtend := fun x p vs ps H M Q Qp ix iv R h l => by
  match p, ps, h, ix, iv with
  | .ref a, [.tup ys], h, ix, iv =>
    cases (show x = V.ref a from ix)
    obtain ⟨v, e, b, zs, i, sq, is2⟩ := one_inv iv
    subst i
    cases m : M a with
    | none => simp only [pExtend, m] at h
    | some o =>
      cases o with
      | lst xs =>
        simp only [pExtend, m] at h
        obtain ⟨ws, e2, is⟩ := R a _ m
        exact ⟨a, b, ws, zs, rfl, e, e2, .inr sq, by rw [is.length, is2.length]; exact h.1, lk_lst l R m (is.append is2) (p := .non) rfl h.2⟩
      | _ => simp only [pExtend, m] at h
  | .ref a, [.ref b], h, ix, iv =>
    cases (show x = V.ref a from ix)
    obtain ⟨v, e, i⟩ := one_inv iv
    cases (show v = V.ref b from i)
    cases m : M a with
    | none => simp only [pExtend, m] at h
    | some o =>
      cases o with
      | lst xs =>
        cases m2 : M b with
        | none => simp only [pExtend, m, m2] at h
        | some o2 =>
          cases o2 with
          | lst ys =>
            simp only [pExtend, m, m2] at h
            obtain ⟨ws, e2, is⟩ := R a _ m
            obtain ⟨zs, e3, is2⟩ := R b _ m2
            exact ⟨a, b, ws, zs, rfl, e, e2, .inl e3, by rw [is.length, is2.length]; exact h.1, lk_lst l R m (is.append is2) (p := .non) rfl h.2⟩
          | _ => simp only [pExtend, m, m2] at h
      | _ => simp only [pExtend, m] at h
theorem am_insert : AM K (fun x vs H Q => ∃ (l : Addr) (xs : List V) (i : Int) (y : V), x = .ref l ∧ vs = [.int i, y] ∧ H l = some (.lst xs) ∧ xs.length < sizeLine ∧ 0 ≤ i ∧ i < 2 ^ 63 ∧
    Q .non (upd H l (.lst (xs.take i.toNat ++ [y] ++ xs.drop i.toNat)))) pInsert := fun x p vs ps H M Q Qp ix iv R h l => by
  match p, ps, h, ix, iv with
  | .ref a, [.int i, y], h, ix, iv =>
    cases (show x = V.ref a from ix)
    obtain ⟨v, w, e, i1, i2⟩ := two_inv iv
    cases (show v = V.int i from i1)
    cases m : M a with
    | none => simp only [pInsert, m] at h
    | some o =>
      cases o with
      | lst xs =>
        simp only [pInsert, m] at h
        obtain ⟨ws, e2, is⟩ := R a _ m
        exact ⟨a, ws, i, w, rfl, e, e2, by rw [is.length]; exact h.1, h.2.1, h.2.2.1, lk_lst l R m (((is.take i.toNat).append (IsPs.cons i2 IsPs.nil)).append (is.drop i.toNat)) (p := .non) rfl h.2.2.2⟩
      | _ => simp only [pInsert, m] at h
theorem am_pop : AM K rPopAt pPop := fun x p vs ps H M Q Qp ix iv R h l => by
  match p, ps, h, ix, iv with
  | .ref a, [.int i], h, ix, iv =>
    cases (show x = V.ref a from ix)
    obtain ⟨v, e, i1⟩ := one_inv iv
    cases (show v = V.int i from i1)
    cases m : M a with
    | none => simp only [pPop, m] at h
    | some o =>
      cases o with
      | lst xs =>
        simp only [pPop, m] at h
        obtain ⟨h0, h1, y, h2, h3⟩ := h
        obtain ⟨ws, e2, is⟩ := R a _ m
        obtain ⟨w, e3, i3⟩ := is.get h2
        have lt : i.toNat < ws.length := (List.getElem?_eq_some_iff.mp e3).1
        have sx : seqIndex? i ws.length = some i.toNat := by
          unfold seqIndex?
          have n0 : ¬ i < 0 := by omega
          have l1 : i < (ws.length : Int) := by omega
          simp [n0, h0, l1]
        exact ⟨a, ws, i, i.toNat, w, rfl, e, e2, by omega, h1, sx, e3, lk_lst l R m (is.erase i.toNat) i3 h3⟩
      | _ => simp only [pPop, m] at h
end

/-! ### stores by place -/
def fGSub (fo fi : FE) : FG := fun p ρ M Q => fo ρ M fun o M1 => fi ρ M1 fun i M2 => match o, i with
  | .ref a, .int k => (match M2 a with
    | some (.lst xs) => ∃ j, ixN xs.length k = some j ∧ ∀ M', LeX a M2 M' → M' a = some (.lst (xs.set j p)) → Q ρ M'
    | _ => False)
  | _, _ => False
section
variable {X : Cx} {o i e : Expr} {to ti te : TE} {fo fi fe : FE} {pos : Pos}
theorem qg_sub (ho : QE X o to fo) (hi : QE X i ti fi)
    (ha : ∀ v, assign (.Subscript o i pos) X.env v = (do
      let ov ← holding [v] (eval o X.env)
      let iv ← holding [v, ov] (eval i X.env)
      standAt pos
      holding [v, ov, iv] (setItem ov iv v)
      release [v, ov, iv] []) := by intro _; rfl) : QG X (.Subscript o i pos) (gSub to ti rSetL) (fGSub fo fi) := ⟨pg_sub ho.p hi.p set_list ha, fun v p σ H ρ M Q Qp iv s R q l =>
  ho.a σ H ρ M _ _ s R q fun x H1 p1 M1 e1 r1 i1 q1 => hi.a σ H1 ρ M1 _ _ (s.ext R e1) r1 q1 fun y H2 p2 M2 e2 r2 i2 q2 => by
    match p1, p2, q2, i1, i2 with
    | .ref a, .int k, q2, i1, i2 =>
      cases (show x = V.ref a from i1)
      cases (show y = V.int k from i2)
      have iv2 := r1.isP e2 (R.isP e1 iv)
      cases m : M2 a with
      | none => simp only [m] at q2
      | some ob =>
        cases ob with
        | lst xs =>
          simp only [m] at q2
          obtain ⟨j, h1, h2⟩ := q2
          obtain ⟨ws, hw, is⟩ := r2 a _ m
          refine ⟨a, ws, k, j, rfl, rfl, hw, by rw [is.length]; exact h1, ?_⟩
          have kk : MOk X.K (upd H2 a (.lst (ws.set j v))) (updM M2 a (.lst (xs.set j p))) a (.lst (xs.set j p)) := ⟨_, upd_same, r2.isPs (Ext.write (m' := .lst (xs.set j p)) m) (IsPs.set iv2 j is)⟩
          have r3 := r2.write m kk
          have e3 : Ext H2 M2 (upd H2 a (.lst (ws.set j v))) (updM M2 a (.lst (xs.set j p))) := Ext.write m
          exact l _ _ _ _ ((e1.trans e2).trans e3) r3 (((s.ext R e1).ext r1 e2).ext r2 e3) (h2 _ LeX.upd updM_same)
        | _ => simp only [m] at q2⟩
end

/-! ### slices -/
def cutP (xs : List P) (lo hi : Option Int) : List P := (xs.drop (HT.sIx xs.length 0 lo)).take (HT.sIx xs.length xs.length hi - HT.sIx xs.length 0 lo)
theorem IsPs.cut {K : PySem.W.Frag} {H : Hp} {ps : List P} {vs : List V} (h : IsPs K H ps vs) (lo hi : Option Int) : IsPs K H (cutP ps lo hi) (cutV vs lo hi) := by
  unfold cutP cutV
  rw [h.length]
  exact (h.drop _).take _
abbrev FO := PSt → Mp → (Option Int → Mp → Prop) → Prop
def AO (K : PySem.W.Frag) (t : TO) (f : FO) : Prop := ∀ (σ : L2.St) (H : Hp) (ρ : PSt) (M : Mp) (Q : Option Int → Hp → Prop) (Qp : Option Int → Mp → Prop), IsS K H σ ρ → Rep K H M → f ρ M Qp →
  (∀ o H' M', Ext H M H' M' → Rep K H' M' → Qp o M' → Q o H') → t σ H Q
structure QO (X : Cx) (e : Option Expr) (t : TO) (f : FO) : Prop where
  p : PO X e t
  a : AO X.K t f
def fNoPart : FO := fun _ M Q => Q none M
def fPart (fe : FE) : FO := fun ρ M Q => fe ρ M fun p M1 => match p with
  | .int i => Q (some i) M1
  | _ => False
def rSlX (K : PySem.W.Frag) : V → Option Int → Option Int → Hp → VK → Prop := fun x lo hi H Q => rSlS x lo hi H Q ∨ (rSlL K x lo hi H Q ∨ rSlA K x lo hi H Q)
def pSl (x : P) (lo hi : Option Int) (M3 : Mp) (Q : KE) : Prop := match x with
  | .str z => z.length ≤ sizeLine ∧ Q (.str (cutS z lo hi)) M3
  | .tup xs => Q (.tup (cutP xs lo hi)) M3
  | .ref a => (match M3 a with
    | some (.lst xs) => ∀ b M', M3 b = none → Le M3 M' → M' b = some (.lst (cutP xs lo hi)) → Q (.ref b) M'
    | _ => False)
  | _ => False
def fSl (fe : FE) (fl fh : FO) : FE := fun ρ M Q => fe ρ M fun x M1 => fl ρ M1 fun lo M2 => fh ρ M2 fun hi M3 => pSl x lo hi M3 Q
/-- xs[::-1] -/
def fRevL (fe : FE) : FE := fun ρ M Q => fe ρ M fun x M1 => match x with
  | .ref a => (match M1 a with
    | some (.lst xs) => ∀ b M', M1 b = none → Le M1 M' → M' b = some (.lst xs.reverse) → Q (.ref b) M'
    | _ => False)
  | _ => False
section
variable {X : Cx} {e : Expr} {te : TE} {fe : FE} {lo hi : Option Expr} {tl th : TO} {fl fh : FO} {pos p2 : Pos}
theorem qo_none : QO X none tNoPart fNoPart := ⟨po_none, fun σ H ρ M Q Qp s R q l => l _ _ _ Ext.refl R q⟩
theorem qo_some (h : QE X e te fe) : QO X (some e) (tPart te) (fPart fe) := ⟨po_some h.p, fun σ H ρ M Q Qp s R q l =>
  h.a σ H ρ M _ _ s R q fun x H1 p1 M1 e1 r1 i1 q1 => by
    cases p1 with
    | int i => exact ⟨i, i1, l _ _ _ e1 r1 q1⟩
    | _ => exact q1.elim⟩
theorem qe_slice (he : QE X e te fe) (hl : QO X lo tl fl) (hh : QO X hi th fh) : QE X (.Subscript e (.Slice lo hi none p2) pos) (tSl (rSlX X.K) te tl th) (fSl fe fl fh) := ⟨pe_slice (SlR.or sl_str (SlR.or sl_list sl_tupA)) he.p hl.p hh.p, fun σ H ρ M Q Qp s R q l =>
  he.a σ H ρ M _ _ s R q fun x H1 p1 M1 e1 r1 i1 q1 => hl.a σ H1 ρ M1 _ _ (s.ext R e1) r1 q1 fun a H2 M2 e2 r2 q2 => hh.a σ H2 ρ M2 _ _ ((s.ext R e1).ext r1 e2) r2 q2 fun b H3 M3 e3 r3 q3 => by
    have i3 := r2.isP e3 (r1.isP e2 i1)
    have l3 := ((l.ext e1).ext e2).ext e3
    match p1, q3, i3 with
    | .str z, q3, i3 => exact .inl ⟨z, i3, q3.1, l3.at r3 q3.2 rfl⟩
    | .tup xs, q3, i3 =>
      obtain ⟨u, vs, ex, sq, is⟩ := i3
      subst ex
      refine .inr (.inr ⟨u, vs, rfl, sq, fun w => l3.at r3 q3 ⟨u, vs, rfl, sq, ?_⟩, fun _ c n => l3.new r3 n q3 ⟨c, _, rfl, SqT.of upd_same, r3.isPs (Ext.new n) (is.cut a b)⟩⟩)
      have c := is.cut a b
      have ec : cutV vs a b = vs := by
        unfold cutV
        rw [w.1, w.2, List.drop_zero, Nat.sub_zero, List.take_length]
      rw [ec] at c
      exact c
    | .ref u, q3, i3 =>
      cases (show x = V.ref u from i3)
      cases m : M3 u with
      | none => simp only [pSl, m] at q3
      | some ob =>
        cases ob with
        | lst xs =>
          simp only [pSl, m] at q3
          obtain ⟨vs, hv, is⟩ := r3 u _ m
          exact .inr (.inl ⟨u, vs, rfl, SqL.of hv, lk_list l3 r3 (is.cut a b) q3⟩)
        | _ => simp only [pSl, m] at q3⟩
theorem qe_revL {k : Nat} {p1 p2 p3 : Pos} (he : QE X e te fe) : QE X (.Subscript e (.Slice none none (some (.UnaryOp .USub (.Constant (.int 1) k p1) p2)) p3) pos) (tRevL X.K te) (fRevL fe) := ⟨pe_revL he.p, fun σ H ρ M Q Qp s R q l =>
  he.a σ H ρ M _ _ s R q fun x H1 p1 M1 e1 r1 i1 q1 => by
    match p1, q1, i1 with
    | .ref u, q1, i1 =>
      cases m : M1 u with
      | none => simp only [m] at q1
      | some ob =>
        cases ob with
        | lst xs =>
          simp only [m] at q1
          obtain ⟨vs, hv, is⟩ := r1 u _ m
          exact ⟨u, vs, i1, SqL.of hv, lk_list (l.ext e1) r1 is.reverse q1⟩
        | _ => simp only [m] at q1⟩
end

/-! ### + of tuples, of lists -/
def pCat : R2P := fun x y M Q => match x, y with
  | .tup xs, .tup ys => xs.length + ys.length ≤ sizeLine ∧ Q (.tup (xs ++ ys)) M
  | .ref a, .ref b => (match M a, M b with
    | some (.lst xs), some (.lst ys) => xs.length + ys.length ≤ sizeLine ∧ ∀ c M', M c = none → Le M M' → M' c = some (.lst (xs ++ ys)) → Q (.ref c) M'
    | _, _ => False)
  | .str i, .str j => i.length + j.length ≤ sizeLine ∧ Q (.str (i ++ j)) M
  | .int i, .int j => Q (.int (i + j)) M
  | _, _ => False
def rAddX (K : PySem.W.Frag) : R2 := fun x y H Q => rI0 (fun i j => .int (i + j)) x y H Q ∨ (∃ i j, x = .str i ∧ y = .str j ∧ i.length + j.length ≤ sizeLine ∧ Q (.str (i ++ j)) H) ∨ rCatA K x y H Q ∨ rCat x y H Q
theorem op_addX {X : Cx} : OpR X (binaryOp .Add) (rAddX X.K) := fun pins s σ H x y v u Q I rx ry h => by
  rcases h with h | h | h | h
  · exact op_add pins s σ H x y v u Q I rx ry h
  · exact op_add_str pins s σ H x y v u Q I rx ry h
  · exact op_catA pins s σ H x y v u Q I rx ry h
  · exact op_cat pins s σ H x y v u Q I rx ry h
theorem ar_addX {K : PySem.W.Frag} : AR2 K (rAddX K) pCat := fun x y p q H M Q Qp hx hy R h l => by
  match p, q, h, hx, hy with
  | .int i, .int j, h, hx, hy => exact .inl ⟨i, j, hx, hy, l.at R h rfl⟩
  | .str i, .str j, h, hx, hy => exact .inr (.inl ⟨i, j, hx, hy, h.1, l.at R h.2 rfl⟩)
  | .tup xs, .tup ys, h, hx, hy =>
    obtain ⟨a, vs, e1, s1, i1⟩ := hx
    obtain ⟨b, ws, e2, s2, i2⟩ := hy
    refine .inr (.inr (.inl ⟨a, b, vs, ws, e1, e2, s1, s2, by rw [i1.length, i2.length]; exact h.1, fun z => l.at R h.2 ⟨b, ws, rfl, s2, ?_⟩, fun _ z => l.at R h.2 ⟨a, vs, rfl, s1, ?_⟩, fun _ _ c n => l.new R n h.2 ⟨c, _, rfl, SqT.of upd_same, R.isPs (Ext.new n) (i1.append i2)⟩⟩))
    · have c := i1.append i2
      rw [z, List.nil_append] at c
      exact c
    · have c := i1.append i2
      rw [z, List.append_nil] at c
      exact c
  | .ref a, .ref b, h, hx, hy =>
    cases m : M a with
    | none => simp only [pCat, m] at h
    | some o =>
      cases o with
      | lst xs =>
        cases m2 : M b with
        | none => simp only [pCat, m, m2] at h
        | some o2 =>
          cases o2 with
          | lst ys =>
            simp only [pCat, m, m2] at h
            obtain ⟨vs, e2, is⟩ := R a _ m
            obtain ⟨ws, e3, is2⟩ := R b _ m2
            exact .inr (.inr (.inr ⟨a, b, vs, ws, hx, hy, e2, e3, by rw [is.length, is2.length]; exact h.1, lk_list l R (is.append is2) h.2⟩))
          | _ => simp only [pCat, m, m2] at h
      | _ => simp only [pCat, m] at h
end CR

set_option Elab.async false
set_option linter.all false
set_option maxRecDepth 100000
set_option maxHeartbeats 4000000
/-! PV7: a def by its body, the draw object opened, text methods, deep ==, isinstance. -/
namespace CR
open PySem PySem.Spec L2 PySem.Calls

/-! ### a def -/
def startP : List Str → List P → PSt
  | [], _ => []
  | _ :: N, [] => none :: startP N []
  | _ :: N, p :: ps => some p :: startP N ps
theorem startP_length : ∀ (N : List Str) (ps : List P), (startP N ps).length = N.length
  | [], _ => rfl
  | _ :: N, [] => by simp [startP, startP_length N []]
  | _ :: N, p :: ps => by simp [startP, startP_length N ps]
theorem nth_startP : ∀ (N : List Str) (ps : List P) (i : Nat) (p : P), nth (startP N ps) i = some p → ps[i]? = some p
  | [], _, _, _, h => by cases h
  | _ :: N, [], 0, _, h => by cases h
  | _ :: N, [], i + 1, p, h => by
    have := nth_startP N [] i p h
    simp at this
  | _ :: N, q :: ps, 0, p, h => by
    have e : q = p := Option.some.inj (show some q = some p from h)
    simp [e]
  | _ :: N, q :: ps, i + 1, p, h => by
    have := nth_startP N ps i p h
    simpa using this
theorem isS_start {K : PySem.W.Frag} {H : Hp} {N : List Str} {ps : List P} {vs : List V} (h : IsPs K H ps vs) (hl : vs.length ≤ N.length) : IsS K H (L2.start N vs) (startP N ps) := ⟨by
  rw [startP_length]
  unfold L2.start
  rw [List.length_append, List.length_map, List.length_replicate]
  omega, fun i p e => by
  obtain ⟨v, e1, e2⟩ := h.get (nth_startP N ps i p e)
  refine ⟨v, ?_, e2⟩
  unfold L2.start
  have lt := (List.getElem?_eq_some_iff.mp e1).1
  rw [List.getElem?_append_left (by simpa using lt), List.getElem?_map, e1]
  rfl⟩
def fnEnds (Q : KE) : PEnds := { nx := fun _ M' => ∃ M'', Le M'' M' ∧ Q .non M'', rt := fun p M' => ∃ M'', Le M'' M' ∧ Q p M'' }
section
variable {P : Program} {w : World} {K : PySem.W.Frag} {mg : Str → Option Value} {base : Heap}
theorem scope_le {N ps : List Str} {sc : Scope} (S : FnScope N ps sc) : ps.length ≤ N.length := by
  have := congrArg List.length S.pre
  rw [List.length_take] at this
  omega
/-- THE RULE of a def -/
theorem fn_body {x : Str} {params : Arguments} {body : List Stmt} {scope : Scope} {f : Addr} {fd : FuncData} {N ps : List Str} {k : Nat} {sp : PSp} {dvs : List V} {kws : List (Str × V)} {qual : Str} (F : FunD K x qual params body scope dvs kws f fd) (S : FnScope N ps scope)
    (len : ∀ vs M Q, sp vs M Q → vs.length = ps.length)
    (hb : ∀ (cdv : Value) (A : Around) (outer : List Env) (s : Shared) (H : Hp) (E : XK), Room k (A.deeper (PyProof.Rows.envOfC qual scope s.heap.objs.size f cdv)) →
      ∃ t g, QSs (cxOf CX0 P w K mg base N qual scope f cdv A outer s H E).nox body t g ∧ ∀ vs M Q, sp vs M Q → g (fnEnds Q) (startP N vs) M) : FnOk P w K mg base CX0 (k + 1) f fd ps (toSp K sp) :=
  F.ok S (fun vs H Q E h => by
    obtain ⟨qs, M, Qp, i, _, q, _⟩ := h
    rw [i.length]
    exact len _ _ _ q) (fun cdv A outer s H vs Q E hr h => by
    obtain ⟨qs, M, Qp, i, R, q, l⟩ := h
    obtain ⟨t, g, hq, hg⟩ := hb cdv A outer s H E hr
    refine ⟨t, PSs.nox hq.p, hq.a _ (fnEnds Qp) _ H _ M (isS_start i ?_) R (hg qs M Qp q) ⟨?_, ?_, ?_, ?_⟩⟩
    · rw [i.length, len _ _ _ q]
      exact scope_le S
    · intro σ' H' ρ' M' e r s1 q1
      obtain ⟨M'', le, q2⟩ := q1
      exact l .non H' .non M'' (e.less le) (r.less le) rfl q2
    · intro v H' p M' e r i1 q1
      obtain ⟨M'', le, q2⟩ := q1
      exact l v H' p M'' (e.less le) (r.less le) i1 q2
    · intro _ _ _ _ _ _ _ q1
      exact q1.elim
    · intro _ _ _ _ _ _ _ q1
      exact q1.elim)
/-- a def of the text that stands at a module's name, without defaults -/
structure Std (K : PySem.W.Frag) (mg : Str → Option Value) (x : Str) (st : Stmt) : Prop where
  ex : ∃ f fd, FunD K x x (defArgs st) (defBody st) (defScope st) [] [] f fd ∧ mg x = some (.ref f)
theorem Std.cal {x : Str} {st : Stmt} {N ps : List Str} {k : Nat} {sp : PSp} (F : Std K mg x st) (S : FnScope N ps (defScope st)) (len : ∀ vs M Q, sp vs M Q → vs.length = ps.length)
    (hbind : ∀ (kV doc pm : Value) (an : Option Addr) (cdv ct : Value) (us : List Value), us.length = ps.length → bindArgs (PySem.W.fnOf x x (defArgs st) (defBody st) (defScope st) .none kV doc pm an cdv ct) ⟨us, []⟩ = pure (ps.zip us))
    (hb : ∀ (f : Addr) (cdv : Value) (A : Around) (outer : List Env) (s : Shared) (H : Hp) (E : XK), Room k (A.deeper (PyProof.Rows.envOfC x (defScope st) s.heap.objs.size f cdv)) →
      ∃ t g, QSs (cxOf CX0 P w K mg base N x (defScope st) f cdv A outer s H E).nox (defBody st) t g ∧ ∀ vs M Q, sp vs M Q → g (fnEnds Q) (startP N vs) M) : C8.Cal P w K mg base (k + 1) x (toSp K sp) [] := by
  obtain ⟨f, fd, F1, hm⟩ := F.ex
  exact ⟨f, fd, ps, [], fn_body F1 S len (hb f), hm, F1.kp, F1.bindsN hbind, .nil⟩
end

/-! ### texts -/
def pJoin : RMP := fun x ps M Q => match x, ps with
  | .str z, [.ref a] => (match M a with
    | some (.lst xs) => ∃ ys : List Str, xs = ys.map P.str ∧ (ys.map (·.length)).sum + ys.length * z.length ≤ 16777216 ∧ Q (.str (Txt.join z ys)) M
    | _ => False)
  | _, _ => False
def pSplit : RMP := fun x ps M Q => match x, ps with
  | .str z, [.str b] => (b.length == 0) = false ∧ z.length + 2 ≤ sizeLine ∧ ∀ a M', M a = none → Le M M' → M' a = some (.lst ((Txt.split z b).map P.str)) → Q (.ref a) M'
  | _, _ => False
def pZfill : RMP := fun x ps M Q => match x, ps with
  | .str z, [.int i] => PadOk i = true ∧ Q (.str (Txt.zfill z i)) M
  | _, _ => False
def pFind : RMP := fun x ps M Q => match x, ps with
  | .str z, [.str b] => Q (.int (Txt.find z b)) M
  | _, _ => False
section
variable {K : PySem.W.Frag} {H : Hp} {M : Mp}
theorem am_join : AM K (fun x xs H Q => ∃ a p, ∃ ys : List Str, x = .str a ∧ xs = [.ref p] ∧ (SqL K H p (ys.map V.str) ∨ SqT K H p (ys.map V.str)) ∧
    (ys.map (·.length)).sum + ys.length * a.length ≤ 16777216 ∧ Q (.str (Txt.join a ys)) H) pJoin := fun x p vs ps H M Q Qp ix iv R h l => by
  match p, ps, h, ix, iv with
  | .str z, [.ref a], h, ix, iv =>
    obtain ⟨v, e, i⟩ := one_inv iv
    cases (show v = V.ref a from i)
    cases m : M a with
    | none => simp only [pJoin, m] at h
    | some o =>
      cases o with
      | lst xs =>
        simp only [pJoin, m] at h
        obtain ⟨ys, rfl, h1, h2⟩ := h
        obtain ⟨ws, e2, is⟩ := R a _ m
        rw [is.strs] at e2
        exact ⟨z, a, ys, ix, e, .inl (SqL.of e2), h1, l.at R h2 rfl⟩
      | _ => simp only [pJoin, m] at h
theorem am_split : AM K (fun x xs H Q => ∃ a b, x = .str a ∧ xs = [.str b] ∧ (b.length == 0) = false ∧ a.length + 2 ≤ sizeLine ∧ rNewStrs (Txt.split a b) H Q) pSplit := fun x p vs ps H M Q Qp ix iv R h l => by
  match p, ps, h, ix, iv with
  | .str z, [.str b], h, ix, iv =>
    obtain ⟨v, e, i⟩ := one_inv iv
    cases (show v = V.str b from i)
    exact ⟨z, b, ix, e, h.1, h.2.1, lk_list l R (IsPs.ofStrs _) h.2.2⟩
theorem am_zfill : AM K (fun x xs H Q => ∃ (a : Str) (i : Int), x = .str a ∧ xs = [.int i] ∧ PadOk i = true ∧ Q (.str (Txt.zfill a i)) H) pZfill := fun x p vs ps H M Q Qp ix iv R h l => by
  match p, ps, h, ix, iv with
  | .str z, [.int b], h, ix, iv =>
    obtain ⟨v, e, i⟩ := one_inv iv
    cases (show v = V.int b from i)
    exact ⟨z, b, ix, e, h.1, l.at R h.2 rfl⟩
theorem am_find : AM K (fun x xs H Q => ∃ a b, x = .str a ∧ xs = [.str b] ∧ Q (.int (Txt.find a b)) H) pFind := fun x p vs ps H M Q Qp ix iv R h l => by
  match p, ps, h, ix, iv with
  | .str z, [.str b], h, ix, iv =>
    obtain ⟨v, e, i⟩ := one_inv iv
    cases (show v = V.str b from i)
    exact ⟨z, b, ix, e, l.at R h rfl⟩
/-- one sign not in a text -/
def pNotIn : R2P := fun p q M Q => match p, q with
  | .str x, .str z => ∃ c, x = ⟨#[c]⟩ ∧ Q (.bl (!decide (c ∈ z.cps.toList))) M
  | _, _ => False
theorem ar_notIn : AR2 K (fun x y H Q => ∃ (c : Nat) (z : Str), x = .str ⟨#[c]⟩ ∧ y = .str z ∧ Q (.bl (!decide (c ∈ z.cps.toList))) H) pNotIn := fun x y p q H M Q Qp hx hy R h l => by
  match p, q, h, hx, hy with
  | .str z, .str b, h, hx, hy =>
    obtain ⟨c, rfl, q⟩ := h
    exact ⟨c, b, hx, hy, l.at R q rfl⟩

/-! ### == of data -/
mutual
def toD : P → PyData
  | .non => .none
  | .bl b => .bool b
  | .int i => .int i
  | .str x => .str x
  | .tup ps => .tuple (toDs ps)
  | .ref _ => .none
def toDs : List P → List PyData
  | [] => []
  | p :: ps => toD p :: toDs ps
end
mutual
def noRef : P → Bool
  | .tup ps => noRefs ps
  | .ref _ => false
  | _ => true
def noRefs : List P → Bool
  | [] => true
  | p :: ps => noRef p && noRefs ps
end
mutual
theorem dp_of : ∀ (p : P) (v : V), noRef p = true → IsP K H p v → Dp K H v (toD p)
  | .non, v, _, h => by cases (show v = V.non from h); exact .non
  | .bl b, v, _, h => by cases (show v = V.bl b from h); exact .bl b
  | .int b, v, _, h => by cases (show v = V.int b from h); exact .int b
  | .str b, v, _, h => by cases (show v = V.str b from h); exact .str b
  | .tup ps, v, n, h => by
    obtain ⟨a, xs, e, sq, is⟩ := h
    subst e
    exact .tup sq (dps_of ps xs n is)
  | .ref a, v, n, h => by cases n
theorem dps_of : ∀ (ps : List P) (vs : List V), noRefs ps = true → IsPs K H ps vs → DpAll K H vs (toDs ps)
  | [], vs, _, h => by cases h.nil_inv; exact .nil
  | p :: ps, vs, n, h => by
    obtain ⟨v, r, e, h1, h2⟩ := h.cons_inv
    subst e
    have n' : (noRef p && noRefs ps) = true := n
    rw [Bool.and_eq_true] at n'
    exact .cons (dp_of p v n'.1 h1) (dps_of ps r n'.2 h2)
end
def okD (p : P) : Bool := noRef p && SeqAt.shaped (toD p)
def pEqX : R2P := fun p q M Q => match p, q with
  | .int i, .int j => Q (.bl (decide (i = j))) M
  | .str i, .str j => Q (.bl (decide (i = j))) M
  | .bl i, .bl j => Q (.bl (decide (i = j))) M
  | p, q => okD p = true ∧ okD q = true ∧ Q (.bl (PyData.eqv (toD p) (toD q))) M
def pNeX : R2P := fun p q M Q => match p, q with
  | .int i, .int j => Q (.bl (!decide (i = j))) M
  | .str i, .str j => Q (.bl (!decide (i = j))) M
  | .bl i, .bl j => Q (.bl (!decide (i = j))) M
  | p, q => okD p = true ∧ okD q = true ∧ Q (.bl (!PyData.eqv (toD p) (toD q))) M
def rEqX (K : PySem.W.Frag) : R2 := fun x y H Q => rEq x y H Q ∨ rEqD K x y H Q
def rNeX (K : PySem.W.Frag) : R2 := fun x y H Q => rNe x y H Q ∨ rNeD K x y H Q
theorem op_eqX {X : Cx} (hu : X.A.units + 64 < cLine) : OpR X (compareOp .Eq) (rEqX X.K) := fun pins s σ H x y v u Q I rx ry h => by
  rcases h with h | h
  · exact op_eq pins s σ H x y v u Q I rx ry h
  · exact op_eqD hu pins s σ H x y v u Q I rx ry h
theorem op_neX {X : Cx} (hu : X.A.units + 64 < cLine) : OpR X (compareOp .NotEq) (rNeX X.K) := fun pins s σ H x y v u Q I rx ry h => by
  rcases h with h | h
  · exact op_ne pins s σ H x y v u Q I rx ry h
  · exact op_neD hu pins s σ H x y v u Q I rx ry h
theorem eqD_in {Q : VK} {Qp : KE} {x y : V} {p q : P} (hx : IsP K H p x) (hy : IsP K H q y) (R : Rep K H M) (l : Lk K H M Q Qp) (h : okD p = true ∧ okD q = true ∧ Qp (.bl (PyData.eqv (toD p) (toD q))) M) : rEqD K x y H Q := by
  obtain ⟨h1, h2, h3⟩ := h
  have h1' := Bool.and_eq_true_iff.mp h1
  have h2' := Bool.and_eq_true_iff.mp h2
  exact ⟨_, _, dp_of p x h1'.1 hx, dp_of q y h2'.1 hy, h1'.2, h2'.2, l.at R h3 rfl⟩
theorem neD_in {Q : VK} {Qp : KE} {x y : V} {p q : P} (hx : IsP K H p x) (hy : IsP K H q y) (R : Rep K H M) (l : Lk K H M Q Qp) (h : okD p = true ∧ okD q = true ∧ Qp (.bl (!PyData.eqv (toD p) (toD q))) M) : rNeD K x y H Q := by
  obtain ⟨h1, h2, h3⟩ := h
  have h1' := Bool.and_eq_true_iff.mp h1
  have h2' := Bool.and_eq_true_iff.mp h2
  exact ⟨_, _, dp_of p x h1'.1 hx, dp_of q y h2'.1 hy, h1'.2, h2'.2, l.at R h3 rfl⟩
theorem ar_eqX : AR2 K (rEqX K) pEqX := fun x y p q H M Q Qp hx hy R h l => by
  cases p <;> cases q <;> first
    | exact .inr (eqD_in hx hy R l h)
    | exact .inl (ar_eq x y _ _ H M Q Qp hx hy R h l)
theorem ar_neX : AR2 K (rNeX K) pNeX := fun x y p q H M Q Qp hx hy R h l => by
  cases p <;> cases q <;> first
    | exact .inr (neD_in hx hy R l h)
    | exact .inl (ar_ne x y _ _ H M Q Qp hx hy R h l)

/-! ### isinstance of a built-in class -/
def tyName (M : Mp) : P → Option String
  | .non => some "NoneType"
  | .bl _ => some "bool"
  | .int _ => some "int"
  | .str _ => some "str"
  | .tup _ => some "tuple"
  | .ref a => (match M a with
    | some (.lst _) => some "list"
    | _ => none)
def isTy (a b : String) : Bool := a == b || (a == "bool" && b == "int")
theorem tyX_tup {K : PySem.W.Frag} {H : Hp} {a : Addr} {xs : List V} (h : SqT K H a xs) : TyX K H (.ref a) (.type "tuple") := by
  rcases h with h | ⟨o, its, n, h1, h2, _⟩
  · rcases h with h | ⟨o, h⟩
    · exact .base (.tup h)
    · exact .fTuple h
  · exact .kTuple h1 h2
theorem tyX_of {p : P} {x : V} {n : String} (h : IsP K H p x) (R : Rep K H M) (e : tyName M p = some n) : TyX K H x (.type n) := by
  cases p with
  | non => cases (show x = V.non from h); cases e; exact .base .non
  | bl b => cases (show x = V.bl b from h); cases e; exact .base (.bl b)
  | int b => cases (show x = V.int b from h); cases e; exact .base (.int b)
  | str b => cases (show x = V.str b from h); cases e; exact .base (.str b)
  | tup ps =>
    obtain ⟨a, xs, e2, sq, is⟩ := h
    subst e2; cases e
    exact tyX_tup sq
  | ref a =>
    cases (show x = V.ref a from h)
    cases m : M a with
    | none => simp only [tyName, m] at e; cases e
    | some o =>
      cases o with
      | lst xs =>
        simp only [tyName, m] at e
        cases e
        obtain ⟨ys, e2, _⟩ := R a _ m
        exact .base (.lst e2)
      | _ => simp only [tyName, m] at e; cases e
end
def tys : List String := ["NoneType", "bool", "int", "str", "tuple", "list"]
theorem tyName_mem {M : Mp} {p : P} {n : String} (e : tyName M p = some n) : n ∈ tys := by
  cases p with
  | ref a =>
    cases m : M a with
    | none => simp only [tyName, m] at e; cases e
    | some o => cases o <;> simp only [tyName, m] at e <;> cases e <;> simp [tys]
  | _ => cases e; simp [tys]
def fIsi (T : String) (fe : FE) : FE := fun ρ M Q => fe ρ M fun x M1 => match tyName M1 x with
  | some n => Q (.bl (isTy n T)) M1
  | none => False
theorem qe_isi {X : Cx} {e : Expr} {te : TE} {fe : FE} {T : String} {x : Str} {p p2 pos : Pos} (kit : ∀ n ∈ tys, kitB n T = some (isTy n T)) (hg : Gl X "isinstance") (hm : X.mg "isinstance" = none) (hv : bootBuiltins "isinstance" = some (.builtin "isinstance"))
    (hg2 : Gl X x) (hm2 : X.mg x = none) (hv2 : bootBuiltins x = some (.type T)) (he : QE X e te fe) (hn : x ≠ "__name__" := by decide) (hd2 : (x == ("__debug__" : Str)) = false := by decide)
    (s1 : starEach [e, .Name x p2] X.env = (false, eval e X.env) :: starEach [.Name x p2] X.env := by rfl) (s2 : starEach [.Name x p2] X.env = (false, eval (.Name x p2) X.env) :: starEach [] X.env := by rfl) (hpl : (backTo pos (starEach [.Name x p2] X.env)).any (·.1) = false := by rfl) :
    QE X (.Call (.Name "isinstance" p) [e, .Name x p2] [] pos) (tCB (rIsi X.K) (tCons te (tCons (tC (.ty T)) tNil))) (fIsi T fe) :=
  ⟨pe_callB call_isi hg hm hv (pa_cons he.p (pa_cons (pe_bltn hg2 hm2 hv2 rfl hn hd2) pa_nil s2) s1) (by decide) (by decide) s1 hpl, fun σ H ρ M Q Qp s R q l =>
    he.a σ H ρ M _ _ s R q fun v H1 p1 M1 e1 r1 i1 q1 => by
      show rIsi X.K [v, .ty T] H1 Q
      cases z : tyName M1 p1 with
      | none => simp only [z] at q1
      | some n =>
        simp only [z] at q1
        exact ⟨v, .ty T, .type n, .type T, _, rfl, .ty T, tyX_of i1 r1 z, kit_ty (kit n (tyName_mem z)), (l.ext e1).at r1 q1 rfl⟩⟩
theorem kit_int : ∀ n ∈ tys, kitB n "int" = some (isTy n "int") := by decide +kernel
theorem kit_bool : ∀ n ∈ tys, kitB n "bool" = some (isTy n "bool") := by decide +kernel
theorem kit_tuple : ∀ n ∈ tys, kitB n "tuple" = some (isTy n "tuple") := by decide +kernel
theorem kit_str : ∀ n ∈ tys, kitB n "str" = some (isTy n "str") := by decide +kernel
end CR

set_option Elab.async false
set_option linter.all false
set_option maxRecDepth 100000
set_option maxHeartbeats 4000000
/-! PV8: helpers for the readings. -/
namespace CR
open PySem PySem.Spec L2
section
variable {M : Mp} {Q : KE}
theorem atP_get {xs : List P} {i : Int} (h0 : 0 ≤ i) : atP xs i = xs[i.toNat]? := by
  obtain ⟨n, rfl⟩ := Int.eq_ofNat_of_zero_le h0
  show getP xs n = _
  rw [getP_eq]
  simp
theorem ix_t {xs : List P} {i : Int} {y : P} (h0 : 0 ≤ i) (h : xs[i.toNat]? = some y) (q : Q y M) : pIx (.tup xs) (.int i) M Q := by
  show (match atP xs i with | some v => Q v M | none => False)
  rw [atP_get h0, h]
  exact q
theorem ix_l {a : Addr} {xs : List P} {i : Int} {y : P} (m : M a = some (.lst xs)) (h0 : 0 ≤ i) (h : xs[i.toNat]? = some y) (q : Q y M) : pIx (.ref a) (.int i) M Q := by
  show (match M a with | some (.lst xs) => (match atP xs i with | some v => Q v M | none => False) | _ => False)
  rw [m]
  show (match atP xs i with | some v => Q v M | none => False)
  rw [atP_get h0, h]
  exact q
theorem len_l {a : Addr} {xs : List P} (m : M a = some (.lst xs)) (q : Q (.int xs.length) M) : pLen [.ref a] M Q := by
  show (match M a with | some (.lst xs) => Q (.int xs.length) M | _ => False)
  rw [m]
  exact q
theorem rt_ {p : P} {M M' : Mp} (l : Le M M') (q : Q p M) : (fnEnds Q).rt p M' := ⟨M, l, q⟩
theorem rt0 {p : P} (q : Q p M) : (fnEnds Q).rt p M := ⟨M, Le.refl, q⟩
theorem mem_get {α : Type} {xs : List α} {i : Nat} (h : i < xs.length) : ∃ y, xs[i]? = some y ∧ y ∈ xs := ⟨xs[i], by simp [h], List.getElem_mem h⟩
end

/-! ### xs[i] += e of ints -/
def rGetL (K : PySem.W.Frag) : R2 := fun o i H Q => ∃ p xs k v, o = .ref p ∧ i = .int k ∧ SqL K H p xs ∧ (0 ≤ k ∧ k < 2 ^ 63) ∧ xs[k.toNat]? = some v ∧ Q v H
theorem pget_list {X : Cx} : PGet X (rGetL X.K) := fun pins s σ H o i ov iv Q Iv ro ri h => by
  obtain ⟨p, xs, k, v, rfl, rfl, hs, hk, hx, q⟩ := h
  cases ro
  obtain ⟨t, rfl⟩ := ri
  obtain ⟨its, rv, pl, hz⟩ := Iv.list hs
  obtain ⟨u, hu, ru⟩ := rv.get hx
  exact wpAny_getItem_list pl.isList hk.1 hk.2 (by simpa using hu) ⟨v, H, Iv, ru, q⟩
def fAugSub (fo fi fe : FE) : FS := fun D ρ M => fo ρ M fun o M1 => fi ρ M1 fun i M2 => match o, i with
  | .ref a, .int k => (match M2 a with
    | some (.lst xs) => (0 ≤ k ∧ k < 2 ^ 63) ∧ ∃ u, xs[k.toNat]? = some (.int u) ∧ fe ρ M2 fun y M3 => (match y with
      | .int v => M3 a = some (.lst xs) ∧ ∀ M', LeX a M3 M' → M' a = some (.lst (xs.set k.toNat (.int (u + v)))) → D.nx ρ M'
      | _ => False)
    | _ => False)
  | _, _ => False
theorem qs_augSub1 {X : Cx} {o i e : Expr} {to ti te : TE} {fo fi fe : FE} {tpos pos : Pos} (ho : QE X o to fo) (hi : QE X i ti fi) (he : QE X e te fe)
    (ha : ∀ ov iv new, augStore i ov iv new = (do holding [new, ov, iv] (setItem ov iv new); release [new, ov, iv] []; pure .next) := by intros; rfl) :
    QS X (.AugAssign (.Subscript o i tpos) .Add e pos) (tAugS to ti te (rGetL X.K) (ipI fun i j => i + j) rSetL) (fAugSub fo fi fe) := ⟨ps_augS ho.p hi.p pget_list he.p ip_add set_list ha, fun D Dp σ H ρ M s R q l =>
  ho.a σ H ρ M _ _ s R q fun x H1 p1 M1 e1 r1 i1 q1 => hi.a σ H1 ρ M1 _ _ (s.ext R e1) r1 q1 fun y H2 p2 M2 e2 r2 i2 q2 => by
    match p1, p2, q2, i1, i2 with
    | .ref a, .int k, q2, i1, i2 =>
      cases (show x = V.ref a from i1)
      cases (show y = V.int k from i2)
      cases m : M2 a with
      | none => simp only [m] at q2
      | some ob =>
        cases ob with
        | lst xs =>
          simp only [m] at q2
          obtain ⟨hk, u, hu, q3⟩ := q2
          obtain ⟨vs, hv, is⟩ := r2 a _ m
          obtain ⟨v, ev, iv⟩ := is.get hu
          refine ⟨a, vs, k, v, rfl, rfl, SqL.of hv, hk, ev, ?_⟩
          have s2 := (s.ext R e1).ext r1 e2
          refine he.a σ H2 ρ M2 _ _ s2 r2 q3 fun z H3 p3 M3 e3 r3 i3 q4 => ?_
          match p3, q4, i3 with
          | .int c, q4, i3 =>
            obtain ⟨m3, q5⟩ := q4
            obtain ⟨ws, hw, is3⟩ := r3 a _ m3
            refine ⟨u, c, iv, i3, a, ws, k, k.toNat, rfl, rfl, hw, ?_, ?_⟩
            · have lt := (List.getElem?_eq_some_iff.mp hu).1
              rw [is3.length]
              unfold ixN
              rw [if_pos hk.1, if_pos (by omega)]
            · have is4 : IsPs X.K H3 (xs.set k.toNat (.int (u + c))) (ws.set k.toNat (.int (u + c))) := IsPs.set (p := .int (u + c)) rfl _ is3
              have kk : MOk X.K (upd H3 a (.lst (ws.set k.toNat (.int (u + c))))) (updM M3 a (.lst (xs.set k.toNat (.int (u + c))))) a (.lst (xs.set k.toNat (.int (u + c)))) := ⟨_, upd_same, r3.isPs (Ext.write (m' := .lst (xs.set k.toNat (.int (u + c)))) m3) is4⟩
              have e5 : Ext H3 M3 (upd H3 a (.lst (ws.set k.toNat (.int (u + c))))) (updM M3 a (.lst (xs.set k.toNat (.int (u + c))))) := Ext.write m3
              exact l.nx _ _ _ _ (((e1.trans e2).trans e3).trans e5) (r3.write m3 kk) ((s2.ext r2 e3).ext r3 e5) (q5 _ LeX.upd updM_same)
        | _ => simp only [m] at q2⟩

/-! ### the draw object, opened -/
def DrwV (ns : List Int) (p q s : Int) : Prop := ns.length ≤ 63 ∧ 0 ≤ p ∧ (0 ≤ q ∧ q.natAbs < 2 ^ 6000) ∧ (0 ≤ s ∧ s < 2147483647)
/-- a def that works on the draw object: its promise follows from that of its body over the opened lists -/
theorem open_drw {K : PySem.W.Frag} {t : TS} {g : FS} (a : AS K t g) {Q : VK} {Qp : KE} {σ : L2.St} {H : Hp} {ρ : PSt} {M : Mp} {d : Addr} (hd : M d = some .drw) (is : IsS K H σ ρ) (R : Rep K H M) (l : Lk K H M Q Qp)
    (h : ∀ (d0 : Addr) (ns : List Int) (p q s : Int) (M1 : Mp), d0 ≠ d → DrwV ns p q s → M1 d = some (.lst [.ref d0, .int p, .int q, .int s]) → M1 d0 = some (.lst (ns.map CR.P.int)) →
      g { nx := fun _ _ => False, rt := fun z M' => ∃ p' q' s', DrwV ns p' q' s' ∧ M' d = some (.lst [.ref d0, .int p', .int q', .int s']) ∧ M' d0 = some (.lst (ns.map P.int)) ∧ Qp z M } ρ M1) :
    t { nx := fun _ H' => Q .non H', rt := Q } σ H := by
  obtain ⟨d0, n0, ns, p, q, s, h1, h2, v⟩ := R d _ hd
  have nd : d0 ≠ d := fun e => by rw [e, hd] at n0; cases n0
  let M1 : Mp := fun b => if b = d then some (.lst [.ref d0, .int p, .int q, .int s]) else if b = d0 then some (.lst (ns.map P.int)) else none
  have m1 : M1 d = some (.lst [.ref d0, .int p, .int q, .int s]) := if_pos rfl
  have m2 : M1 d0 = some (.lst (ns.map P.int)) := by
    show (if d0 = d then _ else _) = _
    rw [if_neg nd, if_pos rfl]
  have m3 : ∀ b, b ≠ d → b ≠ d0 → M1 b = none := fun b e1 e2 => by
    show (if b = d then _ else _) = _
    rw [if_neg e1, if_neg e2]
  have R1 : Rep K H M1 := fun b o hb => by
    by_cases e1 : b = d
    · subst e1
      rw [m1] at hb; cases hb
      exact ⟨_, h1, IsPs.cons rfl (IsPs.cons rfl (IsPs.cons rfl (IsPs.cons rfl IsPs.nil)))⟩
    · by_cases e2 : b = d0
      · subst e2
        rw [m2] at hb; cases hb
        exact ⟨_, h2, IsPs.ofInts ns⟩
      · rw [m3 b e1 e2] at hb; cases hb
  refine a _ _ σ H ρ M1 is R1 (h d0 ns p q s M1 nd v m1 m2) ⟨fun _ _ _ _ _ _ _ z => z.elim, fun z H' pz M' e r iz q1 => ?_, fun _ _ _ _ _ _ _ z => z.elim, fun _ _ _ _ _ _ _ z => z.elim⟩
  obtain ⟨p', q', s', v', k1, k2, k3⟩ := q1
  obtain ⟨ws, w1, w2⟩ := r d _ k1
  obtain ⟨us, u1, u2⟩ := r d0 _ k2
  rw [u2.ints] at u1
  obtain ⟨a1, r1, ea, ia, w3⟩ := w2.cons_inv
  obtain ⟨a2, r2, eb, ib, w4⟩ := w3.cons_inv
  obtain ⟨a3, r3, ec, ic, w5⟩ := w4.cons_inv
  obtain ⟨a4, r4, ed, id', w6⟩ := w5.cons_inv
  have z6 := w6.nil_inv
  subst z6 ed ec eb ea
  cases (show a1 = V.ref d0 from ia); cases (show a2 = V.int p' from ib); cases (show a3 = V.int q' from ic); cases (show a4 = V.int s' from id')
  have E : Ext H M H' M := fun b o hb mb => by
    refine ⟨?_, mb⟩
    by_cases e2 : b = d0
    · rw [e2] at hb ⊢
      rw [h2] at hb; cases hb
      exact u1
    · exact (e b o hb (m3 b (fun e => by rw [e, hd] at mb; cases mb) e2)).1
  refine l z H' pz M E (fun b o hb => ?_) iz k3
  by_cases e1 : b = d
  · rw [e1, hd] at hb
    cases hb
    rw [e1]
    exact ⟨d0, n0, ns, p', q', s', w1, u1, v'⟩
  · have e2 : b ≠ d0 := fun e => by rw [e, n0] at hb; cases hb
    exact MOk.keep R E hb fun u hu => (e b u hu (m3 b e1 e2)).1
/-- THE RULE of a def that works on the draw object itself -/
theorem Std.calD {P : Program} {w : World} {K : PySem.W.Frag} {mg : Str → Option Value} {base : Heap} {x : Str} {st : Stmt} {N ps : List Str} {k : Nat} {sp : PSp} (F : Std K mg x st) (S : FnScope N ps (defScope st)) (len : ∀ vs M Q, sp vs M Q → vs.length = ps.length)
    (hbind : ∀ (kV doc pm : Value) (an : Option Addr) (cdv ct : Value) (us : List Value), us.length = ps.length → bindArgs (PySem.W.fnOf x x (defArgs st) (defBody st) (defScope st) .none kV doc pm an cdv ct) ⟨us, []⟩ = pure (ps.zip us))
    (hb : ∀ (f : Addr) (cdv : Value) (A : Around) (outer : List Env) (s : Shared) (H : Hp) (E : XK), Room k (A.deeper (PyProof.Rows.envOfC x (defScope st) s.heap.objs.size f cdv)) →
      ∃ t g, QSs (cxOf CX0 P w K mg base N x (defScope st) f cdv A outer s H E).nox (defBody st) t g ∧ ∀ vs M Q, sp vs M Q → ∃ d, M d = some .drw ∧ ∀ (d0 : Addr) (ns : List Int) (p q s : Int) (M1 : Mp), d0 ≠ d → DrwV ns p q s →
        M1 d = some (.lst [.ref d0, .int p, .int q, .int s]) → M1 d0 = some (.lst (ns.map CR.P.int)) →
        g { nx := fun _ _ => False, rt := fun z M' => ∃ p' q' s', DrwV ns p' q' s' ∧ M' d = some (.lst [.ref d0, .int p', .int q', .int s']) ∧ M' d0 = some (.lst (ns.map CR.P.int)) ∧ Q z M } (startP N vs) M1) : C8.Cal P w K mg base (k + 1) x (toSp K sp) [] := by
  obtain ⟨f, fd, F1, hm⟩ := F.ex
  refine ⟨f, fd, ps, [], F1.ok S (fun vs H Q E h => ?_) (fun cdv A outer s H vs Q E hr h => ?_), hm, F1.kp, F1.bindsN hbind, .nil⟩
  · obtain ⟨qs, M, Qp, i, _, q, _⟩ := h
    rw [i.length]
    exact len _ _ _ q
  · obtain ⟨qs, M, Qp, i, R, q, l⟩ := h
    obtain ⟨t, g, hq, hg⟩ := hb f cdv A outer s H E hr
    obtain ⟨d, hd, hg⟩ := hg qs M Qp q
    exact ⟨t, PSs.nox hq.p, open_drw hq.a hd (isS_start i (by rw [i.length, len _ _ _ q]; exact scope_le S)) R l hg⟩
/-- two statements with a word between: the ways of the first are joined -/
def fCut (f g : FS) : FS := fun D ρ M => ∃ Mid : PSt → Mp → Prop, f { D with nx := Mid } ρ M ∧ ∀ ρ' M', Mid ρ' M' → g D ρ' M'
theorem qss_cut {X : Cx} {st : Stmt} {rest : List Stmt} {t u : TS} {f g : FS} (h1 : QS X st t f) (h2 : QSs X rest u g) : QSs X (st :: rest) (tSeq t u) (fCut f g) := ⟨pss_cons h1.p h2.p, fun D Dp σ H ρ M s R q l => by
  obtain ⟨Mid, q1, q2⟩ := q
  exact h1.a _ _ σ H ρ M s R q1 ⟨fun σ' H' ρ' M' e r i z => h2.a D Dp σ' H' ρ' M' i r (q2 ρ' M' z) (l.ext e), l.rt, l.bk, l.ct⟩⟩
end CR

set_option Elab.async false
set_option linter.all false
set_option maxRecDepth 100000
set_option maxHeartbeats 4000000
/-! PV9: the rules that speak of the fragment, with the fragment named ahead (needed inside comprehensions). -/
namespace CR
open PySem PySem.Spec L2
section
variable {X : Cx} {a b c e : Expr} {es : List Expr} {ta tb tc te : TE} {fa fb fc fe : FE} {t : TA} {f : FA} {pos : Pos} (K0 : PySem.W.Frag)
theorem qe_ixK (ha : QE X a ta fa) (hb : QE X b tb fb) (hs : PlainIx b := by exact fun _ _ => rfl) (hK : X.K = K0 := by rfl) : QE X (.Subscript a b pos) (tOp (rIx K0) ta tb) (fOp pIx fa fb) := by
  subst hK
  exact qe_ix ha hb hs
theorem qe_callK {P0 : Program} {w0 : World} {mg0 : Str → Option Value} {base0 : Heap} {k j : Nat} {x : Str} {p : Pos} {sp : PSp} (c : C8.Cal P0 w0 K0 mg0 base0 k x (toSp K0 sp) []) (hr : Room j X.A) (hk : k ≤ j) (hg : Gl X x) (ha : QA X (e :: es) t f)
    (hX : X.prog = P0 ∧ X.w = w0 ∧ X.K = K0 ∧ X.mg = mg0 ∧ X.base = base0 := by exact ⟨rfl, rfl, rfl, rfl, rfl⟩)
    (hdb : (x == ("__debug__" : Str)) = false := by decide) (he : starEach (e :: es) X.env = (false, eval e X.env) :: starEach es X.env := by rfl) (hpl : (backTo pos (starEach es X.env)).any (·.1) = false := by rfl) :
    QE X (.Call (.Name x p) (e :: es) [] pos) (tCall (toSp K0 sp) [] E0 t) (fCall sp f) := by
  obtain ⟨h1, h2, h3, h4, h5⟩ := hX
  subst h1 h2 h3 h4 h5
  exact qe_call c hr hk hg ha hdb he hpl
theorem qe_callBK {id : String} {x : Str} {p : Pos} {r : List V → Hp → VK → Prop} {rp : RP} (h : AC K0 r rp) (hc : CallR X (.builtin id) r) (hg : Gl X x) (hm : X.mg x = none) (hv : bootBuiltins x = some (.builtin id)) (ha : QA X (e :: es) t f) (hn : x ≠ "__name__" := by decide) (hdb : (x == ("__debug__" : Str)) = false := by decide)
    (he : starEach (e :: es) X.env = (false, eval e X.env) :: starEach es X.env := by rfl) (hpl : (backTo pos (starEach es X.env)).any (·.1) = false := by rfl) (hK : X.K = K0 := by rfl) : QE X (.Call (.Name x p) (e :: es) [] pos) (tCB r t) (fCB rp f) := by
  subst hK
  exact qe_callB hc h hg hm hv ha hn hdb he hpl
theorem qe_callTyK {T : String} {x : Str} {p : Pos} {r : List V → Hp → VK → Prop} {rp : RP} (h : AC K0 r rp) (hc : CallR X (.type T) r) (hg : Gl X x) (hm : X.mg x = none) (hv : bootBuiltins x = some (.type T)) (ha : QA X (e :: es) t f) (hn : x ≠ "__name__" := by decide) (hdb : (x == ("__debug__" : Str)) = false := by decide)
    (he : starEach (e :: es) X.env = (false, eval e X.env) :: starEach es X.env := by rfl) (hpl : (backTo pos (starEach es X.env)).any (·.1) = false := by rfl) (hK : X.K = K0 := by rfl) : QE X (.Call (.Name x p) (e :: es) [] pos) (tCB r t) (fCB rp f) := by
  subst hK
  exact qe_callTy hc h hg hm hv ha hn hdb he hpl
variable {o : Expr} {to : TE} {fo : FE} {name : Str} {apos cpos : Pos} {id : String} {r : V → List V → Hp → VK → Prop} {rp : RMP}
theorem qe_bmSK (pa : PlainAttrs "str") (slot : Slot "str" name id) (hty : typeOf (.builtin id) = pure (.type "method_descriptor")) (h : AM K0 r rp) (hm : MtR X id r) (ho : QE X o to fo) (ha : QA X (e :: es) t f)
    (hbase : attributeBase o name X.env (eval o X.env) = eval o X.env := by rfl)
    (hfew : ((backTo cpos (starEach (e :: es) X.env)).all (fun x => !x.1) && (backToKw cpos (keywordEach [] X.env)).all (fun x => x.1.isSome)
      && decide ((e :: es).length + ([] : List Keyword).length + (if ([] : List Keyword).isEmpty then 0 else 1) < 30)) = true := by rfl)
    (hline : (apos.endLine == cpos.line) = true := by rfl) (hs : starEach (e :: es) X.env = (false, eval e X.env) :: starEach es X.env := by rfl) (hplain : (backTo cpos (starEach es X.env)).any (·.1) = false := by rfl) (hK : X.K = K0 := by rfl) :
    QE X (.Call (.Attribute o name apos) (e :: es) [] cpos) (tBM K0 "str" r to t) (fBMS rp fo f) := by
  subst hK
  exact qe_bmS pa slot hty hm h ho ha hbase hfew hline hs hplain
theorem qe_bmLK (pa : PlainAttrs "list") (slot : Slot "list" name id) (hty : typeOf (.builtin id) = pure (.type "method_descriptor")) (h : AM K0 r rp) (hm : MtR X id r) (ho : QE X o to fo) (ha : QA X (e :: es) t f)
    (hbase : attributeBase o name X.env (eval o X.env) = eval o X.env := by rfl)
    (hfew : ((backTo cpos (starEach (e :: es) X.env)).all (fun x => !x.1) && (backToKw cpos (keywordEach [] X.env)).all (fun x => x.1.isSome)
      && decide ((e :: es).length + ([] : List Keyword).length + (if ([] : List Keyword).isEmpty then 0 else 1) < 30)) = true := by rfl)
    (hline : (apos.endLine == cpos.line) = true := by rfl) (hs : starEach (e :: es) X.env = (false, eval e X.env) :: starEach es X.env := by rfl) (hplain : (backTo cpos (starEach es X.env)).any (·.1) = false := by rfl) (hK : X.K = K0 := by rfl) :
    QE X (.Call (.Attribute o name apos) (e :: es) [] cpos) (tBM K0 "list" r to t) (fBML rp fo f) := by
  subst hK
  exact qe_bmL pa slot hty hm h ho ha hbase hfew hline hs hplain
variable {lo hi : Option Expr} {tl th : TO} {fl fh : FO} {p2 : Pos}
theorem qe_sliceK (he : QE X e te fe) (hl : QO X lo tl fl) (hh : QO X hi th fh) (hK : X.K = K0 := by rfl) : QE X (.Subscript e (.Slice lo hi none p2) pos) (tSl (rSlX K0) te tl th) (fSl fe fl fh) := by
  subst hK
  exact qe_slice he hl hh
theorem qe_revLK {k : Nat} {p1 p2 p3 : Pos} (he : QE X e te fe) (hK : X.K = K0 := by rfl) : QE X (.Subscript e (.Slice none none (some (.UnaryOp .USub (.Constant (.int 1) k p1) p2)) p3) pos) (tRevL K0 te) (fRevL fe) := by
  subst hK
  exact qe_revL he
theorem qe_plusK (ha : QE X a ta fa) (hb : QE X b tb fb) (hK : X.K = K0 := by rfl) : QE X (.BinOp a .Add b pos) (tOp (rAddX K0) ta tb) (fOp pCat fa fb) := by
  subst hK
  exact qe_op op_addX ar_addX ha hb
theorem qe_eqK (hu : X.A.units + 64 < cLine) (ha : QE X a ta fa) (hb : QE X b tb fb) (hm : behindInMarks .Eq b = false) (hK : X.K = K0 := by rfl) : QE X (.Compare a [.Eq] [b] pos) (tOp (rEqX K0) ta tb) (fOp pEqX fa fb) := by
  subst hK
  exact qe_cmp (op_eqX hu) ar_eqX ha hb hm
theorem qe_neK (hu : X.A.units + 64 < cLine) (ha : QE X a ta fa) (hb : QE X b tb fb) (hm : behindInMarks .NotEq b = false) (hK : X.K = K0 := by rfl) : QE X (.Compare a [.NotEq] [b] pos) (tOp (rNeX K0) ta tb) (fOp pNeX fa fb) := by
  subst hK
  exact qe_cmp (op_neX hu) ar_neX ha hb hm
theorem qt_eqK (hu : X.A.units + 64 < cLine) (ha : QE X a ta fa) (hb : QE X b tb fb) (hm : behindInMarks .Eq b = false) (hK : X.K = K0 := by rfl) : QT X (.Compare a [.Eq] [b] pos) (tTest (tOp (rEqX K0) ta tb)) (fTest (fOp pEqX fa fb)) := by
  subst hK
  exact qt_cmp (op_eqX hu) ar_eqX ha hb hm
theorem qt_neK (hu : X.A.units + 64 < cLine) (ha : QE X a ta fa) (hb : QE X b tb fb) (hm : behindInMarks .NotEq b = false) (hK : X.K = K0 := by rfl) : QT X (.Compare a [.NotEq] [b] pos) (tTest (tOp (rNeX K0) ta tb)) (fTest (fOp pNeX fa fb)) := by
  subst hK
  exact qt_cmp (op_neX hu) ar_neX ha hb hm
theorem qe_isiK {T : String} {x : Str} {p p2 : Pos} (kit : ∀ n ∈ tys, kitB n T = some (isTy n T)) (hg : Gl X "isinstance") (hm : X.mg "isinstance" = none) (hv : bootBuiltins "isinstance" = some (.builtin "isinstance"))
    (hg2 : Gl X x) (hm2 : X.mg x = none) (hv2 : bootBuiltins x = some (.type T)) (he : QE X e te fe) (hn : x ≠ "__name__" := by decide) (hd2 : (x == ("__debug__" : Str)) = false := by decide)
    (s1 : starEach [e, .Name x p2] X.env = (false, eval e X.env) :: starEach [.Name x p2] X.env := by rfl) (s2 : starEach [.Name x p2] X.env = (false, eval (.Name x p2) X.env) :: starEach [] X.env := by rfl) (hpl : (backTo pos (starEach [.Name x p2] X.env)).any (·.1) = false := by rfl) (hK : X.K = K0 := by rfl) :
    QE X (.Call (.Name "isinstance" p) [e, .Name x p2] [] pos) (tCB (rIsi K0) (tCons te (tCons (tC (.ty T)) tNil))) (fIsi T fe) := by
  subst hK
  exact qe_isi kit hg hm hv hg2 hm2 hv2 he hn hd2 s1 s2 hpl
theorem qi_seqK {tg l : Expr} {tl : TE} {fl : FE} (hl : QE X l tl fl) (hK : X.K = K0 := by rfl) : QI X tg l (iAny K0 tl) (fISeq fl) := by
  subst hK
  exact qi_seq hl
end
end CR

set_option Elab.async false
set_option linter.all false
set_option maxRecDepth 100000
set_option maxHeartbeats 4000000
/-! PV10: comprehensions and loops by what they gather. -/
namespace CR
open PySem PySem.Spec L2
theorem Le.none {M M' : Mp} {b : Addr} (l : Le M M') (n : M' b = Option.none) : M b = Option.none := by
  cases z : M b with
  | none => rfl
  | some o => rw [l _ _ z] at n; cases n
/-- what stands when the element is put -/
def Put (D : Addr) (M3 : Mp) (acc : List CR.P) (y : CR.P) (G : Prop) : Prop := ∀ M4, LeX D M3 M4 → M4 D = some (.lst (acc ++ [y])) → G
/-- k good things -/
def AllG (Good : CR.P → Prop) (k : Nat) (acc : List CR.P) : Prop := acc.length = k ∧ ∀ y ∈ acc, Good y
theorem AllG.nil {Good : CR.P → Prop} : AllG Good 0 [] := ⟨rfl, fun y h => by cases h⟩
theorem AllG.snoc {Good : CR.P → Prop} {k : Nat} {acc : List CR.P} (h : AllG Good k acc) {y : CR.P} (g : Good y) : AllG Good (k + 1) (acc ++ [y]) := ⟨by simp [h.1], fun z hz => by
  rcases List.mem_append.mp hz with hz | hz
  · exact h.2 z hz
  · rw [List.mem_singleton.mp hz]; exact g⟩
theorem AllG.set {Good : CR.P → Prop} {k : Nat} {acc : List CR.P} (h : AllG Good k acc) {y : CR.P} {j : Nat} (g : Good y) : AllG Good k (acc.set j y) := ⟨by simp [h.1], fun z hz => by
  rcases List.mem_or_eq_of_mem_set hz with hz | hz
  · exact h.2 z hz
  · rw [hz]; exact g⟩
section
variable {M : Mp} {Q : KE} {i : Nat} {fe : FE} {ft : FT} {ρ : PSt}
theorem lc_any {J : PIt} (hk : J.keep M) (G : Nat → List CR.P → Prop) (g0 : G 0 []) (hn : ∀ k acc, k < J.n → G k acc → acc.length < sizeLine)
    (elt : ∀ {D : Addr} k acc M', k < J.n → Le M M' → J.keep M' → G k acc → ft (setS (clrS ρ i) i (J.item k)) M' (fun M2 => fe (setS (clrS ρ i) i (J.item k)) M2 fun y M3 => Le M' M3 ∧ Put D M3 acc y (G (k + 1) (acc ++ [y]))) (fun M2 => Le M' M2 ∧ G (k + 1) acc))
    (fin : ∀ acc a M2, G J.n acc → M a = none → Le M M2 → M2 a = some (.lst acc) → Q (.ref a) M2) : LcB J M i ft fe ρ Q :=
  fun D nD => ⟨fun k acc _ => G k acc, fun _ _ _ => g0, fun k acc M' h l hD g => ⟨hn k acc h g, elt k acc M' h l (PIt.keep_le hk l) g⟩, fun acc M' l hD g => fin acc D M' g nD l hD⟩
/-- over a range: each is good -/
theorem lc_rng {lo : Int} {n : Nat} (Good : CR.P → Prop) (hn : n ≤ sizeLine) (elt : ∀ {D : Addr} (k : Nat) acc M', k < n → Le M M' → AllG Good k acc → fe (setS (clrS ρ i) i (.int (lo + k))) M' fun y M3 => Le M' M3 ∧ Put D M3 acc y (AllG Good (k + 1) (acc ++ [y])))
    (fin : ∀ acc a M2, AllG Good n acc → M a = none → Le M M2 → M2 a = some (.lst acc) → Q (.ref a) M2) : LcB (rngIt lo n) M i fYes fe ρ Q :=
  lc_any trivial (AllG Good) AllG.nil (fun k acc h g => by have : k < n := h; rw [g.1]; omega) (fun k acc M' h l _ g => elt k acc M' h l g) fin
/-- over a range: a map -/
theorem lc_rngM {lo : Int} {n : Nat} (g : Nat → CR.P) (hn : n ≤ sizeLine) (elt : ∀ {D : Addr} (k : Nat) M', k < n → Le M M' → fe (setS (clrS ρ i) i (.int (lo + k))) M' fun y M3 => Le M' M3 ∧ Put D M3 ((List.range k).map g) y ((List.range k).map g ++ [y] = (List.range (k + 1)).map g))
    (fin : ∀ a M2, M a = none → Le M M2 → M2 a = some (.lst ((List.range n).map g)) → Q (.ref a) M2) : LcB (rngIt lo n) M i fYes fe ρ Q :=
  lc_any trivial (fun k acc => acc = (List.range k).map g) rfl (fun k acc h e => by have : k < n := h; rw [e, List.length_map, List.length_range]; omega) (fun k acc M' h l _ e => by
    subst e
    exact elt k M' h l) fun acc a M2 e n0 l m => fin a M2 n0 l (by
      have e1 : acc = (List.range n).map g := e
      rw [← e1]; exact m)
theorem rsnoc {α : Type} {g : Nat → α} {k : Nat} {y : α} (h : y = g k) : (List.range k).map g ++ [y] = (List.range (k + 1)).map g := by rw [List.range_succ, List.map_append, h]; rfl
theorem item_seq {xs : List CR.P} {k : Nat} {x : CR.P} (h : xs[k]? = some x) : (xs[k]?).getD .non = x := by rw [h]; rfl
/-- over a tuple: each is good -/
theorem lc_seq {xs : List CR.P} (Good : CR.P → Prop) (hn : xs.length ≤ sizeLine) (elt : ∀ {D : Addr} (k : Nat) x acc M', xs[k]? = some x → x ∈ xs → Le M M' → AllG Good k acc → fe (setS (clrS ρ i) i x) M' fun y M3 => Le M' M3 ∧ Put D M3 acc y (AllG Good (k + 1) (acc ++ [y])))
    (fin : ∀ acc a M2, AllG Good xs.length acc → M a = none → Le M M2 → M2 a = some (.lst acc) → Q (.ref a) M2) : LcB (seqIt xs) M i fYes fe ρ Q :=
  lc_any trivial (AllG Good) AllG.nil (fun k acc h g => by have : k < xs.length := h; rw [g.1]; omega) (fun k acc M' h l _ g => by
    have h' : k < xs.length := h
    have e : xs[k]? = some xs[k] := by simp [h']
    show fe (setS (clrS ρ i) i ((xs[k]?).getD .non)) M' _
    rw [item_seq e]
    exact elt k _ acc M' e (List.getElem_mem h') l g) fin
theorem tsnoc {α β : Type} {g : α → β} {xs : List α} {k : Nat} {x : α} {y : β} (e : xs[k]? = some x) (h : y = g x) : (xs.take k).map g ++ [y] = (xs.take (k + 1)).map g := by
  rw [List.take_succ, List.map_append, e, h]; rfl
/-- over a tuple: a map -/
theorem lc_seqM {xs : List CR.P} (g : CR.P → CR.P) (hn : xs.length ≤ sizeLine) (elt : ∀ {D : Addr} (k : Nat) x M', xs[k]? = some x → x ∈ xs → Le M M' → fe (setS (clrS ρ i) i x) M' fun y M3 => Le M' M3 ∧ Put D M3 ((xs.take k).map g) y ((xs.take k).map g ++ [y] = (xs.take (k + 1)).map g))
    (fin : ∀ a M2, M a = none → Le M M2 → M2 a = some (.lst (xs.map g)) → Q (.ref a) M2) : LcB (seqIt xs) M i fYes fe ρ Q :=
  lc_any trivial (fun k acc => acc = (xs.take k).map g) rfl (fun k acc h e => by have : k < xs.length := h; rw [e, List.length_map, List.length_take]; omega) (fun k acc M' h l _ g => by
    have h' : k < xs.length := h
    have e : xs[k]? = some xs[k] := by simp [h']
    subst g
    show fe (setS (clrS ρ i) i ((xs[k]?).getD .non)) M' _
    rw [item_seq e]
    exact elt k _ M' e (List.getElem_mem h') l) fun acc a M2 e n l m => fin a M2 n l (by
      have e2 : acc = xs.map g := by
        have e1 : acc = (xs.take xs.length).map g := e
        rw [List.take_length] at e1
        exact e1
      rw [← e2]; exact m)
/-- over a list -/
theorem lc_lst {b : Addr} {xs : List CR.P} (hb : M b = some (.lst xs)) (Good : CR.P → Prop) (hn : xs.length ≤ sizeLine) (elt : ∀ {D : Addr} (k : Nat) x acc M', xs[k]? = some x → x ∈ xs → Le M M' → AllG Good k acc → fe (setS (clrS ρ i) i x) M' fun y M3 => Le M' M3 ∧ Put D M3 acc y (AllG Good (k + 1) (acc ++ [y])))
    (fin : ∀ acc a M2, AllG Good xs.length acc → M a = none → Le M M2 → M2 a = some (.lst acc) → Q (.ref a) M2) : LcB (lstIt b xs) M i fYes fe ρ Q :=
  lc_any hb (AllG Good) AllG.nil (fun k acc h g => by have : k < xs.length := h; rw [g.1]; omega) (fun k acc M' h l _ g => by
    have h' : k < xs.length := h
    have e : xs[k]? = some xs[k] := by simp [h']
    show fe (setS (clrS ρ i) i ((xs[k]?).getD .non)) M' _
    rw [item_seq e]
    exact elt k _ acc M' e (List.getElem_mem h') l g) fin
theorem lc_lstM {b : Addr} {xs : List CR.P} (hb : M b = some (.lst xs)) (g : CR.P → CR.P) (hn : xs.length ≤ sizeLine) (elt : ∀ {D : Addr} (k : Nat) x M', xs[k]? = some x → x ∈ xs → Le M M' → fe (setS (clrS ρ i) i x) M' fun y M3 => Le M' M3 ∧ Put D M3 ((xs.take k).map g) y ((xs.take k).map g ++ [y] = (xs.take (k + 1)).map g))
    (fin : ∀ a M2, M a = none → Le M M2 → M2 a = some (.lst (xs.map g)) → Q (.ref a) M2) : LcB (lstIt b xs) M i fYes fe ρ Q :=
  lc_any hb (fun k acc => acc = (xs.take k).map g) rfl (fun k acc h e => by have : k < xs.length := h; rw [e, List.length_map, List.length_take]; omega) (fun k acc M' h l _ g => by
    have h' : k < xs.length := h
    have e : xs[k]? = some xs[k] := by simp [h']
    subst g
    show fe (setS (clrS ρ i) i ((xs[k]?).getD .non)) M' _
    rw [item_seq e]
    exact elt k _ M' e (List.getElem_mem h') l) fun acc a M2 e n l m => fin a M2 n l (by
      have e2 : acc = xs.map g := by
        have e1 : acc = (xs.take xs.length).map g := e
        rw [List.take_length] at e1
        exact e1
      rw [← e2]; exact m)
end
section
variable {M : Mp} {D : PEnds} {ρ : PSt} {g : FG} {fb : FS}
theorem for_rng {lo : Int} {n : Nat} (W : Nat → PSt → Mp → Prop) (w0 : W 0 ρ M) (turn : ∀ (k : Nat) ρ' M', k < n → W k ρ' M' → g (.int (lo + k)) ρ' M' fun ρ2 M2 => fb { D with nx := W (k + 1), ct := W (k + 1), bk := D.nx } ρ2 M2) (done : ∀ ρ' M', W n ρ' M' → D.nx ρ' M') : ForB (rngIt lo n) M g fb D ρ :=
  ⟨W, w0, fun k ρ' M' h w => ⟨trivial, turn k ρ' M' h w⟩, fun ρ' M' w => ⟨trivial, done ρ' M' w⟩⟩
theorem for_seq {xs : List CR.P} (W : Nat → PSt → Mp → Prop) (w0 : W 0 ρ M) (turn : ∀ (k : Nat) x ρ' M', xs[k]? = some x → x ∈ xs → W k ρ' M' → g x ρ' M' fun ρ2 M2 => fb { D with nx := W (k + 1), ct := W (k + 1), bk := D.nx } ρ2 M2) (done : ∀ ρ' M', W xs.length ρ' M' → D.nx ρ' M') : ForB (seqIt xs) M g fb D ρ :=
  ⟨W, w0, fun k ρ' M' h w => ⟨trivial, by
    have h' : k < xs.length := h
    have e : xs[k]? = some xs[k] := by simp [h']
    show g ((xs[k]?).getD .non) ρ' M' _
    rw [item_seq e]
    exact turn k _ ρ' M' e (List.getElem_mem h') w⟩, fun ρ' M' w => ⟨trivial, done ρ' M' w⟩⟩
theorem for_lst {b : Addr} {xs : List CR.P} (W : Nat → PSt → Mp → Prop) (w0 : W 0 ρ M) (keep : ∀ k ρ' M', W k ρ' M' → M' b = some (.lst xs)) (turn : ∀ (k : Nat) x ρ' M', xs[k]? = some x → x ∈ xs → W k ρ' M' → g x ρ' M' fun ρ2 M2 => fb { D with nx := W (k + 1), ct := W (k + 1), bk := D.nx } ρ2 M2) (done : ∀ ρ' M', W xs.length ρ' M' → D.nx ρ' M') : ForB (lstIt b xs) M g fb D ρ :=
  ⟨W, w0, fun k ρ' M' h w => ⟨keep k ρ' M' w, by
    have h' : k < xs.length := h
    have e : xs[k]? = some xs[k] := by simp [h']
    show g ((xs[k]?).getD .non) ρ' M' _
    rw [item_seq e]
    exact turn k _ ρ' M' e (List.getElem_mem h') w⟩, fun ρ' M' w => ⟨keep _ ρ' M' w, done ρ' M' w⟩⟩
end
section
variable {M : Mp} {Q : KE}
theorem app_ {a : Addr} {xs : List CR.P} {y : CR.P} (m : M a = some (.lst xs)) (hn : xs.length < sizeLine) (q : ∀ M', LeX a M M' → M' a = some (.lst (xs ++ [y])) → Q .non M') : pAppend (.ref a) [y] M Q := by
  show (match M a with | some (.lst xs) => _ | _ => False)
  rw [m]
  exact ⟨hn, q⟩
theorem extL_ {a b : Addr} {xs ys : List CR.P} (m : M a = some (.lst xs)) (m2 : M b = some (.lst ys)) (hn : xs.length + ys.length ≤ sizeLine) (q : ∀ M', LeX a M M' → M' a = some (.lst (xs ++ ys)) → Q .non M') : pExtend (.ref a) [.ref b] M Q := by
  show (match M a, M b with | some (.lst xs), some (.lst ys) => _ | _, _ => False)
  rw [m, m2]
  exact ⟨hn, q⟩
theorem extT_ {a : Addr} {xs ys : List CR.P} (m : M a = some (.lst xs)) (hn : xs.length + ys.length ≤ sizeLine) (q : ∀ M', LeX a M M' → M' a = some (.lst (xs ++ ys)) → Q .non M') : pExtend (.ref a) [.tup ys] M Q := by
  show (match M a with | some (.lst xs) => _ | _ => False)
  rw [m]
  exact ⟨hn, q⟩
theorem tup_l {a : Addr} {xs : List CR.P} (m : M a = some (.lst xs)) (q : Q (.tup xs) M) : pTuple [.ref a] M Q := by
  show (match M a with | some (.lst xs) => Q (.tup xs) M | _ => False)
  rw [m]
  exact q
theorem sum_l {a : Addr} {ns : List Int} (m : M a = some (.lst (ns.map CR.P.int))) (q : Q (.int ns.sum) M) : pSum [.ref a] M Q := by
  show (match M a with | some (.lst xs) => ∃ ns : List Int, xs = ns.map CR.P.int ∧ Q (.int ns.sum) M | _ => False)
  rw [m]
  exact ⟨ns, rfl, q⟩
theorem all_l {a : Addr} {bs : List Bool} (m : M a = some (.lst (bs.map CR.P.bl))) (q : Q (.bl (bs.all id)) M) : pAll [.ref a] M Q := by
  show (match M a with | some (.lst xs) => ∃ bs : List Bool, xs = bs.map CR.P.bl ∧ Q (.bl (bs.all id)) M | _ => False)
  rw [m]
  exact ⟨bs, rfl, q⟩
theorem catL_ {a b : Addr} {xs ys : List CR.P} (m : M a = some (.lst xs)) (m2 : M b = some (.lst ys)) (hn : xs.length + ys.length ≤ sizeLine) (q : ∀ c M', M c = none → Le M M' → M' c = some (.lst (xs ++ ys)) → Q (.ref c) M') : pCat (.ref a) (.ref b) M Q := by
  show (match M a, M b with | some (.lst xs), some (.lst ys) => _ | _, _ => False)
  rw [m, m2]
  exact ⟨hn, q⟩
theorem join_l {a : Addr} {z : Str} {ys : List Str} (m : M a = some (.lst (ys.map CR.P.str))) (hn : (ys.map (·.length)).sum + ys.length * z.length ≤ 16777216) (q : Q (.str (Txt.join z ys)) M) : pJoin (.str z) [.ref a] M Q := by
  show (match M a with | some (.lst xs) => _ | _ => False)
  rw [m]
  exact ⟨ys, rfl, hn, q⟩
theorem is_l {fi : PIt → Mp → Prop} {a : Addr} {xs : List CR.P} (m : M a = some (.lst xs)) (q : fi (lstIt a xs) M) : (match M a with | some (.lst xs) => fi (lstIt a xs) M | _ => False) := by
  rw [m]
  exact q
end
/-- at most k good things -/
def SubG (Good : CR.P → Prop) (k : Nat) (acc : List CR.P) : Prop := acc.length ≤ k ∧ ∀ y ∈ acc, Good y
theorem SubG.nil {Good : CR.P → Prop} : SubG Good 0 [] := ⟨Nat.le_refl _, fun y h => by cases h⟩
theorem SubG.snoc {Good : CR.P → Prop} {k : Nat} {acc : List CR.P} (h : SubG Good k acc) {y : CR.P} (g : Good y) : SubG Good (k + 1) (acc ++ [y]) := ⟨by rw [List.length_append]; exact Nat.succ_le_succ h.1, fun z hz => by
  rcases List.mem_append.mp hz with hz | hz
  · exact h.2 z hz
  · rw [List.mem_singleton.mp hz]; exact g⟩
theorem SubG.skip {Good : CR.P → Prop} {k : Nat} {acc : List CR.P} (h : SubG Good k acc) : SubG Good (k + 1) acc := ⟨Nat.le_succ_of_le h.1, h.2⟩
section
variable {M : Mp} {Q : KE} {i : Nat} {fe : FE} {ft : FT} {ρ : PSt}
theorem lc_rngF {lo : Int} {n : Nat} (Good : CR.P → Prop) (hn : n ≤ sizeLine) (elt : ∀ {D : Addr} (k : Nat) acc M', k < n → Le M M' → SubG Good k acc → ft (setS (clrS ρ i) i (.int (lo + k))) M' (fun M2 => fe (setS (clrS ρ i) i (.int (lo + k))) M2 fun y M3 => Le M' M3 ∧ Put D M3 acc y (SubG Good (k + 1) (acc ++ [y]))) (fun M2 => Le M' M2 ∧ SubG Good (k + 1) acc))
    (fin : ∀ acc a M2, SubG Good n acc → M a = none → Le M M2 → M2 a = some (.lst acc) → Q (.ref a) M2) : LcB (rngIt lo n) M i ft fe ρ Q :=
  lc_any trivial (SubG Good) SubG.nil (fun k acc h g => by have : k < n := h; have := g.1; omega) (fun k acc M' h l _ g => elt k acc M' h l g) fin
theorem lc_seqF {xs : List CR.P} (Good : CR.P → Prop) (hn : xs.length ≤ sizeLine) (elt : ∀ {D : Addr} (k : Nat) x acc M', xs[k]? = some x → x ∈ xs → Le M M' → SubG Good k acc → ft (setS (clrS ρ i) i x) M' (fun M2 => fe (setS (clrS ρ i) i x) M2 fun y M3 => Le M' M3 ∧ Put D M3 acc y (SubG Good (k + 1) (acc ++ [y]))) (fun M2 => Le M' M2 ∧ SubG Good (k + 1) acc))
    (fin : ∀ acc a M2, SubG Good xs.length acc → M a = none → Le M M2 → M2 a = some (.lst acc) → Q (.ref a) M2) : LcB (seqIt xs) M i ft fe ρ Q :=
  lc_any trivial (SubG Good) SubG.nil (fun k acc h g => by have : k < xs.length := h; have := g.1; omega) (fun k acc M' h l _ g => by
    have h' : k < xs.length := h
    have e : xs[k]? = some xs[k] := by simp [h']
    show ft (setS (clrS ρ i) i ((xs[k]?).getD .non)) M' (fun M2 => fe (setS (clrS ρ i) i ((xs[k]?).getD .non)) M2 _) _
    rw [item_seq e]
    exact elt k _ acc M' e (List.getElem_mem h') l g) fin
end
section
variable {M : Mp} {Q : KE}
theorem sl_t {xs : List CR.P} {lo hi : Option Int} (q : Q (.tup (cutP xs lo hi)) M) : pSl (.tup xs) lo hi M Q := q
theorem sl_s {z : Str} {lo hi : Option Int} (h : z.length ≤ sizeLine) (q : Q (.str (cutS z lo hi)) M) : pSl (.str z) lo hi M Q := ⟨h, q⟩
theorem sl_l {a : Addr} {xs : List CR.P} {lo hi : Option Int} (m : M a = some (.lst xs)) (q : ∀ b M', M b = none → Le M M' → M' b = some (.lst (cutP xs lo hi)) → Q (.ref b) M') : pSl (.ref a) lo hi M Q := by
  show (match M a with | some (.lst xs) => _ | _ => False)
  rw [m]
  exact q
theorem cat_i {i j : Int} (q : Q (.int (i + j)) M) : pCat (.int i) (.int j) M Q := q
theorem cat_t {xs ys : List CR.P} (h : xs.length + ys.length ≤ sizeLine) (q : Q (.tup (xs ++ ys)) M) : pCat (.tup xs) (.tup ys) M Q := ⟨h, q⟩
theorem cat_s {x y : Str} (h : x.length + y.length ≤ sizeLine) (q : Q (.str (x ++ y)) M) : pCat (.str x) (.str y) M Q := ⟨h, q⟩
theorem max_i {i j : Int} (q : Q (.int (if j > i then j else i)) M) : pMax2 [.int i, .int j] M Q := q
theorem min_i {i j : Int} (q : Q (.int (if j < i then j else i)) M) : pMin2 [.int i, .int j] M Q := q
theorem i0 {x : CR.P} {r : List CR.P} (q : Q x M) : pIx (.tup (x :: r)) (.int 0) M Q := q
theorem i1 {x y : CR.P} {r : List CR.P} (q : Q y M) : pIx (.tup (x :: y :: r)) (.int 1) M Q := q
theorem i2 {x y z : CR.P} {r : List CR.P} (q : Q z M) : pIx (.tup (x :: y :: z :: r)) (.int 2) M Q := q
theorem i3 {a b c d : CR.P} {r : List CR.P} (q : Q d M) : pIx (.tup (a :: b :: c :: d :: r)) (.int 3) M Q := q
theorem i4 {a b c d e : CR.P} {r : List CR.P} (q : Q e M) : pIx (.tup (a :: b :: c :: d :: e :: r)) (.int 4) M Q := q
theorem len_t {xs : List CR.P} (q : Q (.int xs.length) M) : pLen [.tup xs] M Q := q
theorem len_s {z : Str} (h : z.length ≤ sizeLine) (q : Q (.int z.length) M) : pLen [.str z] M Q := ⟨h, q⟩
end
theorem cut1 (x : CR.P) (r : List CR.P) : cutP (x :: r) (some 1) none = r := by
  unfold cutP
  rw [show HT.sIx (x :: r).length 0 (some 1) = min 1 (x :: r).length from HT.sIx_nat _ _ 1, HT.sIx_none]
  simp
/-- str of an int of less than 4300 digits -/
def pStrB : RP := fun ps M Q => match ps with
  | [.int i] => i.natAbs < 10 ^ 4300 ∧ Q (.str (toString i)) M
  | _ => False
theorem ac_strB {K : PySem.W.Frag} : AC K (fun xs H Q => ∃ i, xs = [.int i] ∧ i.natAbs < 10 ^ 4300 ∧ Q (.str (toString i)) H) pStrB := fun vs ps H M Q Qp hv R h l => by
  match ps, h, hv with
  | [.int i], h, hv =>
    obtain ⟨v, e, i1⟩ := one_inv hv
    cases (show v = V.int i from i1)
    exact ⟨i, e, h.1, l.at R h.2 rfl⟩
theorem cr_strB {X : Cx} (hb : X.base.NoDigits) (hh : X.A.handled = none) : CallR X (.type "str") (fun xs H Q => ∃ i, xs = [.int i] ∧ i.natAbs < 10 ^ 4300 ∧ Q (.str (toString i)) H) := by
  intro pins s σ H xs us Q I r h
  obtain ⟨i, rfl, hz, q⟩ := h
  obtain ⟨u, rfl, t, rfl⟩ := L2.vals1 r
  exact PyProof.Rows.str_of_int_or hh (hb.keeps I.bk) (fun _ => ⟨.str _, H, I.tok _, ⟨_, rfl⟩, q⟩) (fun hc => absurd hz (by omega))
theorem strB {M : Mp} {Q : KE} {n : Nat} (h : n < 2 ^ 14000) (q : Q (.str (SX.S (TL.numL n))) M) : pStrB [.int (n : Int)] M Q := ⟨by
  have e : (2 : Nat) ^ 14000 ≤ 10 ^ 4300 := by
    have : Nat.ble (2 ^ 14000) (10 ^ 4300) = true := by decide +kernel
    exact Nat.le_of_ble_eq_true this
  rw [Int.natAbs_natCast]
  exact Nat.lt_of_lt_of_le h e, by
  have e := SX.num_S n
  show Q (.str (Str.ofString (toString ((n : Nat) : Int)))) M
  rw [e]
  exact q⟩
theorem at_S {l : List Nat} {k : Nat} {c : Nat} (h : l[k]? = some c) : L2.atI (SX.S l).cps.toList (k : Int) = some c := by
  have e : (SX.S l).cps.toList = l := by simp [SX.S]
  rw [e]
  unfold L2.atI ixN
  have := (List.getElem?_eq_some_iff.mp h).1
  rw [if_pos (by omega), if_pos (by omega)]
  simpa using h
theorem ix_s {l : List Nat} {k c : Nat} {M : Mp} {Q : KE} (hz : l.length < 2 ^ 20) (h : l[k]? = some c) (q : Q (.str (SX.S [c])) M) : pIx (.str (SX.S l)) (.int (k : Int)) M Q := ⟨by
  rw [SX.S_len]
  exact Nat.le_of_lt (Nat.lt_of_lt_of_le hz (by decide)), c, at_S h, q⟩
theorem ord_s {c : Nat} {M : Mp} {Q : KE} (q : Q (.int (c : Nat)) M) : pOrd [.str (SX.S [c])] M Q := ⟨rfl, q⟩
/-- over a text -/
def fIStr (fe : FE) : FI := fun ρ M R => fe ρ M fun p M1 => match p with
  | .str z => R (strIt z) M1
  | _ => False
theorem its_ok {K : PySem.W.Frag} {H0 : Hp} {M0 : Mp} {z : Str} : ItOk K H0 M0 (Its z) (strIt z) where
  ini := trivial
  go := fun i H M _ _ _ h => by
    have h' : i < z.cps.toList.length := h
    rw [Array.length_toList] at h'
    exact h'
  yld := fun i H M x H2 _ R _ hi h => by
    obtain ⟨e1, c, e2, e3⟩ := h
    rw [e1]
    refine ⟨Ext.refl, R, ?_⟩
    show x = V.str ⟨#[(z.cps.toList[i]?).getD 0]⟩
    rw [Array.getElem?_toList, e2, e3]
    rfl
  stop := fun _ _ _ _ _ => by
    show z.cps.size ≤ z.cps.toList.length
    rw [Array.length_toList]
    exact Nat.le_refl _
theorem qi_str {X : Cx} {tg l : Expr} {tl : TE} {fl : FE} (hl : QE X l tl fl) : QI X tg l (iStr tl) (fIStr fl) := ⟨pi_str hl.p, fun σ H ρ M R Rp s r q k =>
  hl.a σ H ρ M _ _ s r q fun x H1 p1 M1 e1 r1 i1 q1 => by
    cases p1 with
    | str z => exact ⟨z, i1, k _ _ H1 M1 e1 r1 its_ok q1⟩
    | _ => exact q1.elim⟩
theorem for_str {l : List Nat} {M : Mp} {g : FG} {fb : FS} {D : PEnds} {ρ : PSt} (W : Nat → PSt → Mp → Prop) (w0 : W 0 ρ M) (turn : ∀ (k c : Nat) ρ' M', l[k]? = some c → W k ρ' M' → g (.str (SX.S [c])) ρ' M' fun ρ2 M2 => fb { D with nx := W (k + 1), ct := W (k + 1), bk := D.nx } ρ2 M2) (done : ∀ ρ' M', W l.length ρ' M' → D.nx ρ' M') : ForB (strIt (SX.S l)) M g fb D ρ := by
  have e0 : (SX.S l).cps.toList = l := by simp [SX.S]
  refine ⟨W, w0, fun k ρ' M' h w => ⟨trivial, ?_⟩, fun ρ' M' w => ⟨trivial, done ρ' M' ?_⟩⟩
  · have h' : k < l.length := by
      have h2 : k < (SX.S l).cps.toList.length := h
      rw [e0] at h2
      exact h2
    have e : l[k]? = some l[k] := by simp [h']
    show g (.str ⟨#[((SX.S l).cps.toList[k]?).getD 0]⟩) ρ' M' _
    rw [e0, e]
    exact turn k _ ρ' M' e w
  · have w2 : W (SX.S l).cps.toList.length ρ' M' := w
    rw [e0] at w2
    exact w2
end CR

set_option Elab.async false
set_option linter.all false
set_option maxRecDepth 100000
set_option maxHeartbeats 4000000
/-! PV11: list(range(n)), text.replace. -/
namespace CR
open PySem PySem.Spec L2
def fLstRg (fe : FE) : FE := fun ρ M Q => fe ρ M fun p M1 => match p with
  | .int j => (0 ≤ j ∧ j < 2 ^ 20) ∧ ∀ a M', M1 a = none → Le M1 M' → M' a = some (.lst ((List.range j.toNat).map fun k => CR.P.int (k : Nat))) → Q (.ref a) M'
  | _ => False
theorem isps_rg {K : PySem.W.Frag} {H : Hp} (n : Nat) (l : List Nat) : IsPs K H (l.map fun k => CR.P.int (k : Nat)) (l.map fun k => V.int (0 + (k : Nat))) := by
  induction l with
  | nil => exact IsPs.nil
  | cons k l ih => exact IsPs.cons (by show V.int (0 + (k : Int)) = V.int k; rw [Int.zero_add]) ih
theorem qe_listRg {X : Cx} {e : Expr} {te : TE} {fe : FE} {p p2 pos pos2 : Pos} (hc : X.calm = true) (hg : Gl X "list") (hm : X.mg "list" = none) (hg2 : Gl X "range") (hm2 : X.mg "range" = none) (he : QE X e te fe) (na : starEach [e] X.env = (false, eval e X.env) :: starEach [] X.env := by rfl)
    (nb : starEach [.Call (.Name "range" p2) [e] [] pos2] X.env = (false, eval (.Call (.Name "range" p2) [e] [] pos2) X.env) :: starEach [] X.env := by rfl) : QE X (.Call (.Name "list" p) [.Call (.Name "range" p2) [e] [] pos2] [] pos) (tLstRg (tRg1 te)) (fLstRg fe) :=
  ⟨pe_listRg hc hg hm (prg_1 hg2 hm2 he.p na) nb, fun σ H ρ M Q Qp s R q l =>
    he.a σ H ρ M _ _ s R q fun x H1 p1 M1 e1 r1 i1 q1 => by
      cases p1 with
      | int j =>
        obtain ⟨hj, q2⟩ := q1
        refine ⟨j, i1, RgOk.of_le (by omega) (by omega) (by omega) (by omega), ?_⟩
        refine lk_list (l.ext e1) r1 ?_ q2
        show IsPs X.K H1 _ ((List.range (j - 0).toNat).map fun i => V.int (0 + (i : Nat)))
        rw [Int.sub_zero]
        exact isps_rg 0 _
      | _ => exact q1.elim⟩
/-- a method of a written text has put a token out -/
theorem grows {prog : Program} {w : World} {A : Around} {env : Env} {z name : Str} {i : Nat} {p0 apos pos : Pos} {es : List Expr} {kws : List Keyword} {Q : Value → Shared → Prop} {E : Value → Shared → Prop} {s : Shared} {k : Value → Sem Value}
    (ht : eval (.Call (.Attribute (.Constant (.str z) i p0) name apos) es kws pos) env = (eval (.Constant (.str z) i p0) env >>= k))
    (h : wpAny (model prog w) A (eval (.Call (.Attribute (.Constant (.str z) i p0) name apos) es kws pos) env) Q E s) :
    wpAny (model prog w) A (eval (.Call (.Attribute (.Constant (.str z) i p0) name apos) es kws pos) env) (fun a s' => 1 ≤ s'.toks ∧ Q a s') (fun e s' => 1 ≤ s'.toks ∧ E e s') s := by
  rw [ht] at h ⊢
  intro Γ p hΓ
  have h2 := h Γ p hΓ
  have e1 := (Sem.wp_bind (model prog w) Γ (eval (.Constant (.str z) i p0) env) k (fun a _ s' => Q a s') (fun e _ s' => E e s') p s)
  have h3 : Sem.wp (model prog w) Γ (k (.str z s.toks)) (fun a _ s' => Q a s') (fun e _ s' => E e s') p { s with toks := s.toks + 1 } := e1.mp h2
  have h4 := Sem.wp_toks (model prog w) Γ 1 (k (.str z s.toks)) _ _ p { s with toks := s.toks + 1 } (by show 1 ≤ s.toks + 1; omega) h3
  exact (Sem.wp_bind (model prog w) Γ (eval (.Constant (.str z) i p0) env) k (fun a _ s' => 1 ≤ s'.toks ∧ Q a s') (fun e _ s' => 1 ≤ s'.toks ∧ E e s') p s).mpr h4
def fRepl (fo : FE) (y z : Str) : FE := fun ρ M Q => fo ρ M fun p M1 => match p with
  | .str x => x.length + (x.length + 1) * z.length ≤ 16777216 ∧ Q (.str (Txt.replace x y z)) M1
  | _ => False
section
variable {X : Cx} {z0 name y z : Str} {i j k : Nat} {p0 oapos opos c0 c1 apos pos : Pos} {a : Expr} {to : TE} {fo : FE}
theorem qe_repl (ho : QE X (.Call (.Attribute (.Constant (.str z0) i p0) name oapos) [a] [] opos) to fo) (pl : Sem Bool)
    (ht : eval (.Call (.Attribute (.Constant (.str z0) i p0) name oapos) [a] [] opos) X.env = (eval (.Constant (.str z0) i p0) X.env >>= fun ov => (do
      standAt oapos.atName
      let (f, first) ← holding [ov] (getMethod ov name pl)
      callWith opos f first (backTo opos (starEach [a] X.env)) (backToKw opos (keywordEach [] X.env))))) (hyz : (y == z) = false := by decide)
    (hst : starEach [.Constant (.str y) j c0, .Constant (.str z) k c1] X.env = [(false, eval (.Constant (.str y) j c0) X.env), (false, eval (.Constant (.str z) k c1) X.env)] := by rfl)
    (hbase : attributeBase (.Call (.Attribute (.Constant (.str z0) i p0) name oapos) [a] [] opos) "replace" X.env (eval (.Call (.Attribute (.Constant (.str z0) i p0) name oapos) [a] [] opos) X.env) = eval (.Call (.Attribute (.Constant (.str z0) i p0) name oapos) [a] [] opos) X.env := by rfl)
    (hline : (apos.endLine == pos.line) = true := by rfl) :
    QE X (.Call (.Attribute (.Call (.Attribute (.Constant (.str z0) i p0) name oapos) [a] [] opos) "replace" apos) [.Constant (.str y) j c0, .Constant (.str z) k c1] [] pos) (CwR.tReplC to y z) (fRepl fo y z) := ⟨by
  refine ⟨fun pins s σ H Q I h => ?_⟩
  refine PySem.Call_method2 hbase hst hline (wpAny_mono (grows ht (ho.p.run pins s σ H _ I h)) (fun v s1 q => ?_) fun _ _ z => z.2)
  obtain ⟨hk, v', H1, I1, r1, x, e1, hb, q⟩ := q
  subst e1
  obtain ⟨tx, e2⟩ := r1
  subst e2
  refine ⟨"str", _, PySem.F.plainAttrs_str, PySem.F.slot_str_replace, PySem.F.type_str_replace, typeIs_str _ _ _, (fun _ e => nomatch e), Calls.callWith_builtin rfl (Calls.evalArgs_plain (Calls.spliced_cons ?_))⟩
  refine Calls.Constant_str (Calls.spliced_cons (Calls.Constant_str (Calls.spliced_nil ?_)))
  exact PySem.SC.replace (by show s1.toks ≠ 0; omega) (by show s1.toks + 1 ≠ 0; omega) (by show s1.toks ≠ s1.toks + 1; omega) hyz hb fun t' k => ⟨.str (Txt.replace x y z), H1, I1.tok k, ⟨t', rfl⟩, q⟩,
  fun σ H ρ M Q Qp s R q l => ho.a σ H ρ M _ _ s R q fun x H1 p1 M1 e1 r1 i1 q1 => by
    cases p1 with
    | str u => exact ⟨u, i1, q1.1, (l.ext e1).at r1 q1.2 rfl⟩
    | _ => exact q1.elim⟩
end
end CR

set_option Elab.async false
set_option linter.all false
set_option maxRecDepth 100000
set_option maxHeartbeats 4000000
/-! PV12: int(text) of up to 4300 digits. -/
namespace CR
open PySem PySem.Spec L2 PySem.Calls PySem.NumText PyProof.Rows PySem.W.KIN
theorem read43 {x : Str} {n : Int} (hn : PySem.intText? x = some n) : ((numSeenOf x).length == (numTextOf x).length) = true ∧ (int_private% "readNumeral") 4300 10 (numSeenOf x) = (int_private% "Numeral.value") n := by
  rw [readNumeral_ten]
  unfold PySem.intText? at hn
  split at hn
  · rename_i hall
    refine ⟨hall, ?_⟩
    split at hn
    · rename_i ds hd
      split at hn
      · rename_i hs
        cases hn
        rw [hd]
        exact judge_ok (l := 4300) (Or.inr hs) (by omega)
      · cases hn
    · cases hn
  · cases hn
theorem maxdig {M : Model} {A : Around} {E : Value → Shared → Prop} {s : Shared} {Q : Nat → Shared → Prop} (hn : s.heap.NoDigits) (h : Q 4300 s) : wpAny M A Builtin.intMaxStrDigits Q E s := by
  obtain ⟨mc, hns, hnone⟩ := hn
  unfold Builtin.intMaxStrDigits
  refine wpAny_bind (wpAny_nsGet hns ?_)
  rw [hnone]
  exact wpAny_pure h
theorem wp_textL {M : Model} {A : Around} {E : Value → Shared → Prop} {s : Shared} {Q : Value → Shared → Prop} {v : Value} {text : List Nat} {n : Int}
    (hs : ¬ (text.takeWhile (· != 0)).length ≤ 640) (hN : s.heap.NoDigits) (hr : (int_private% "readNumeral") 4300 10 (text.takeWhile (· != 0)) = (int_private% "Numeral.value") n)
    (ha : ((text.takeWhile (· != 0)).length == text.length) = true) (h : Q (.int n s.toks) { s with toks := s.toks + 1 }) :
    wpAny M A ((int_private% "intFromText") v text 10) Q E s := by
  obtain ⟨hp, g, d, tk, os⟩ := s
  repeat (any_goals (first
    | assumption
    | (with_reducible refine wpAny_ite_false (decide_eq_false hs) ?_)
    | (with_reducible refine wpAny_ite_true (decide_eq_true ha) ?_)
    | (with_reducible refine maxdig hN ?_)
    | wp_step))
  all_goals (try rw [hr])
  all_goals (try dsimp only)
  repeat (any_goals (first
    | assumption
    | (with_reducible refine wpAny_ite_true (decide_eq_true ha) ?_)
    | wp_step))
theorem meets_textL {x : PySem.Str} {u : Tok} {n : Int} (hl : ¬ (numSeenOf x).length ≤ 640) (hn : PySem.intText? x = some n) :
    Meets (Builtin.«int.__new__» ⟨[.type "int", .str x u], []⟩) (fun _ R s => s.heap.NoDigits ∧ R (.ok (.ret (.int n s.toks))) { s with toks := s.toks + 1 }) :=
  .of_wp fun prog w A R s h => by
    obtain ⟨hN, h⟩ := h
    obtain ⟨hp, g, d, tk, os⟩ := s
    have f1 := F.conv_sub_int
    have f2 := F.madeHere_int
    have f3 := str_int
    have f4 := str_idx
    have f5 := str_trunc
    have f6 : typeOf (.str x u) = pure (.type "str") := rfl
    have hr := read43 hn
    have hk := Hid.mk (And.intro hl (And.intro hr hN))
    clear hr hl hn hN
    repeat (any_goals (first
      | assumption
      | ((with_reducible show wpAny _ _ ((int_private% "intFromText") _ _ _) _ _ _); refine wp_textL hk.out.1 hk.out.2.2 hk.out.2.1.2 hk.out.2.1.1 ?_)
      | wp_step))
    all_goals first | exact ⟨_, rfl, h⟩ | skip
theorem call_textL {prog : Program} {w : World} {A : Around} {E : Value → Shared → Prop} {s : Shared} {Q : Value → Shared → Prop} {x : PySem.Str} {t : Tok} {n : Int} (hN : s.heap.NoDigits) (hn : PySem.intText? x = some n) (hx : x.length ≤ 640 ∨ ¬ (numSeenOf x).length ≤ 640)
    (h : Q (.int n s.toks) { s with toks := s.toks + 1 }) : wpAny (model prog w) A (call (.type "int") [.str x t]) Q E s := by
  rcases hx with hx | hl
  · exact call_text hn hx h
  · exact call_int_1 (meets_textL hl hn) ⟨hN, typeIs_int _ _ _, h⟩
def pIntB : RP := fun ps M Q => match ps with
  | [.str z] => ∃ n, PySem.intText? z = some n ∧ (z.length ≤ 640 ∨ ¬ (numSeenOf z).length ≤ 640) ∧ Q (.int n) M
  | _ => False
def rIntB : List V → Hp → VK → Prop := fun xs H Q => ∃ a n, xs = [.str a] ∧ PySem.intText? a = some n ∧ (a.length ≤ 640 ∨ ¬ (numSeenOf a).length ≤ 640) ∧ Q (.int n) H
theorem ac_intB {K : PySem.W.Frag} : AC K rIntB pIntB := fun vs ps H M Q Qp hv R h l => by
  match ps, h, hv with
  | [.str z], h, hv =>
    obtain ⟨v, e, i1⟩ := one_inv hv
    cases (show v = V.str z from i1)
    obtain ⟨n, h1, h2, q⟩ := h
    exact ⟨z, n, e, h1, h2, l.at R q rfl⟩
theorem cr_intB {X : Cx} (hb : X.base.NoDigits) : CallR X (.type "int") rIntB := by
  intro pins s σ H xs us Q I rs h
  obtain ⟨a, n, rfl, hn, hl, h⟩ := h
  cases rs with
  | cons r1 rs =>
    cases rs
    obtain ⟨t, rfl⟩ := r1
    exact call_textL (hb.keeps I.bk) hn hl ⟨.int n, H, I.tok _, ⟨_, rfl⟩, h⟩
theorem tw_all {p : Nat → Bool} : ∀ {l : List Nat}, (∀ c ∈ l, p c = true) → l.takeWhile p = l
  | [], _ => rfl
  | c :: r, h => by
    rw [List.takeWhile_cons, h c (List.mem_cons_self ..)]
    exact congrArg (fun z => c :: z) (tw_all fun d hd => h d (List.mem_cons_of_mem _ hd))
theorem seen_S {l : List Nat} (h : NumText.AllDigits l) : numSeenOf (SX.S l) = l := by
  have e0 : (SX.S l).cps.toList = l := by simp [SX.S]
  have e1 : (SX.S l).cps.all (· < 128) = true := by
    rw [← Array.all_toList, e0, List.all_eq_true]
    intro c hc
    have := h c hc
    simp
    omega
  unfold numSeenOf numTextOf
  rw [if_pos e1, e0]
  refine tw_all fun c hc => ?_
  have := h c hc
  simp
  omega
theorem intB {n : Nat} {M : Mp} {Q : KE} (h : (TL.numL n).length ≤ 4300) (q : Q (.int (n : Nat)) M) : pIntB [.str (SX.S (TL.numL n))] M Q := by
  refine ⟨(n : Int), ?_, ?_, q⟩
  · have e := TL.int_num (n := n) h
    rw [SX.num_S] at e
    exact e
  · rw [seen_S (TL.numL_digits n), SX.S_len]
    omega
end CR

set_option Elab.async false
set_option linter.all false
set_option maxRecDepth 100000
set_option maxHeartbeats 4000000
/-! PV13: instances: attributes read and written. -/
namespace CR
open PySem PySem.Spec L2
def lkP (f : Str) : List (Str × CR.P) → Option CR.P
  | [] => none
  | (g, p) :: r => if f = g then some p else lkP f r
def putP (f : Str) (y : CR.P) : List (Str × CR.P) → List (Str × CR.P)
  | [] => [(f, y)]
  | (g, p) :: r => if f = g then (g, y) :: r else (g, p) :: putP f y r
theorem fs_lookup {K : PySem.W.Frag} {H : Hp} {f : Str} {p : CR.P} : ∀ {fs : List (Str × CR.P)} {gs : List (Str × V)}, FsOk K H fs gs → lkP f fs = some p → ∃ v, gs.lookup f = some v ∧ IsP K H p v
  | [], _, _, e => by cases e
  | (g, q) :: r, gs, h, e => by
    obtain ⟨v, t, rfl, h1, h2⟩ := h
    unfold lkP at e
    by_cases hg : f = g
    · rw [if_pos hg] at e
      cases e
      refine ⟨v, ?_, h1⟩
      show List.lookup f ((g, v) :: t) = _
      rw [List.lookup_cons, hg, beq_self_eq_true]
    · rw [if_neg hg] at e
      obtain ⟨u, e1, e2⟩ := fs_lookup h2 e
      refine ⟨u, ?_, e2⟩
      show List.lookup f ((g, v) :: t) = _
      rw [List.lookup_cons, beq_eq_false_iff_ne.mpr hg]
      exact e1
theorem fs_none {K : PySem.W.Frag} {H : Hp} {f : Str} : ∀ {fs : List (Str × CR.P)} {gs : List (Str × V)}, FsOk K H fs gs → lkP f fs = none → gs.lookup f = none
  | [], gs, h, _ => by
    rw [show gs = [] from h]
    rfl
  | (g, q) :: r, gs, h, e => by
    obtain ⟨v, t, rfl, h1, h2⟩ := h
    unfold lkP at e
    by_cases hg : f = g
    · rw [if_pos hg] at e
      cases e
    · rw [if_neg hg] at e
      show List.lookup f ((g, v) :: t) = _
      rw [List.lookup_cons, beq_eq_false_iff_ne.mpr hg]
      exact fs_none h2 e
theorem fs_put {K : PySem.W.Frag} {H : Hp} {f : Str} {y : CR.P} {v : V} (hv : IsP K H y v) : ∀ {fs : List (Str × CR.P)} {gs : List (Str × V)}, FsOk K H fs gs → FsOk K H (putP f y fs) (putF f v gs)
  | [], gs, h => by
    rw [show gs = [] from h]
    exact ⟨v, [], rfl, hv, rfl⟩
  | (g, q) :: r, gs, h => by
    obtain ⟨u, t, rfl, h1, h2⟩ := h
    unfold putP
    by_cases hg : f = g
    · rw [if_pos hg]
      refine ⟨v, t, ?_, hv, h2⟩
      show (if g = f then (g, v) :: t else _) = _
      rw [if_pos hg.symm]
    · rw [if_neg hg]
      refine ⟨u, putF f v t, ?_, h1, fs_put hv h2⟩
      show (if g = f then _ else (g, u) :: putF f v t) = _
      rw [if_neg fun e => hg e.symm]
theorem fs_len {K : PySem.W.Frag} {H : Hp} : ∀ {fs : List (Str × CR.P)} {gs : List (Str × V)}, FsOk K H fs gs → gs.length = fs.length
  | [], gs, h => by rw [show gs = [] from h]; rfl
  | f :: r, gs, h => by
    obtain ⟨u, t, rfl, h1, h2⟩ := h
    simp [fs_len h2]
def fFld (C : Addr) (f : Str) (fe : FE) : FE := fun ρ M Q => fe ρ M fun p M1 => match p with
  | .ref a => ∃ dx fs v, M1 a = some (.ins C dx fs) ∧ lkP f fs = some v ∧ Q v M1
  | _ => False
theorem qe_fld {X : Cx} {e : Expr} {te : TE} {fe : FE} {f : Str} {pos : Pos} {C : Addr} (K0 : PySem.W.Frag) (c : Cls K0 C) (n : NoAttr K0 C f) (he : QE X e te fe) (hb : attributeBase e f X.env (eval e X.env) = eval e X.env := by rfl) (hK : X.K = K0 := by rfl) :
    QE X (.Attribute e f pos) (tFld K0 te f) (fFld C f fe) := by
  subst hK
  refine ⟨pe_fld he.p hb, fun σ H ρ M Q Qp s R q l => he.a σ H ρ M _ _ s R q fun x H1 p1 M1 e1 r1 i1 q1 => ?_⟩
  cases p1 with
  | ref a =>
    cases (show x = V.ref a from i1)
    obtain ⟨dx, fs, v, m, hl, q2⟩ := q1
    obtain ⟨gs, hg, ok⟩ := r1 a _ m
    obtain ⟨u, hu, iu⟩ := fs_lookup ok hl
    exact ⟨a, C, dx, gs, u, rfl, hg, c, n, hu, (l.ext e1).at r1 q2 iu⟩
  | _ => exact q1.elim
/-- o.f = v -/
def fSFld (C : Addr) (f : Str) (fo fv : FE) : FS := fun D ρ M => fv ρ M fun y M1 => fo ρ M1 fun x M2 => match x with
  | .ref a => ∃ dx fs, M2 a = some (.ins C dx fs) ∧ fs.length < 1000 ∧ ∀ M', LeX a M2 M' → M' a = some (.ins C dx (putP f y fs)) → D.nx ρ M'
  | _ => False
theorem qs_fld {X : Cx} {o value : Expr} {to tv : TE} {fo fv : FE} {f : Str} {pos pos' : Pos} {C : Addr} (c : Cls X.K C) (n : NoAttr X.K C f) (ho : QE X o to fo) (hv : QE X value tv fv)
    (hs : swapsWith value (some (.Attribute o f pos')) pos.line X.env = pure false := by rfl) : QS X (.Assign [.Attribute o f pos'] value pos) (sFld X.K to tv f) (fSFld C f fo fv) := by
  refine ⟨ps_fld ho.p hv.p hs, fun D Dp σ H ρ M s R q l => hv.a σ H ρ M _ _ s R q fun y H1 p1 M1 e1 r1 i1 q1 => ho.a σ H1 ρ M1 _ _ (s.ext R e1) r1 q1 fun x H2 p2 M2 e2 r2 i2 q2 => ?_⟩
  cases p2 with
  | ref a =>
    cases (show x = V.ref a from i2)
    obtain ⟨dx, fs, m, hl, q3⟩ := q2
    obtain ⟨gs, hg, ok⟩ := r2 a _ m
    refine ⟨a, C, dx, gs, rfl, hg, c, n, by rw [fs_len ok]; exact hl, ?_⟩
    have E3 : Ext H2 M2 (upd H2 a (.ins C dx (putF f y gs))) (updM M2 a (.ins C dx (putP f p1 fs))) := Ext.write m
    have kk : MOk X.K (upd H2 a (.ins C dx (putF f y gs))) (updM M2 a (.ins C dx (putP f p1 fs))) a (.ins C dx (putP f p1 fs)) := ⟨_, upd_same, FsOk.mono (r2.sqT E3) (fs_put (r1.isP e2 i1) ok)⟩
    exact l.nx σ _ ρ _ ((e1.trans e2).trans E3) (r2.write m kk) (((s.ext R e1).ext r1 e2).ext r2 E3) (q3 _ LeX.upd updM_same)
  | _ => exact q2.elim
/-- o.m(..) of an own class -/
def fMeth (C : Addr) (m : Str) (sp : PSp) (fo : FE) (fa : FA) : FE := fun ρ M Q => fo ρ M fun x M1 => match x with
  | .ref a => ∃ dx fs, M1 a = some (.ins C dx fs) ∧ lkP m fs = none ∧ fa ρ M1 fun ps M2 => sp (.ref a :: ps) M2 Q
  | _ => False
theorem qe_mt {X : Cx} {o e : Expr} {es : List Expr} {to : TE} {fo : FE} {t : TA} {f : FA} {m : Str} {pos apos : Pos} {C : Addr} {k j : Nat} {sp : PSp} {pl : Sem Bool} (c : C8.Met X.prog X.w X.K X.mg X.base k C m (toSp X.K sp) []) (hr : Room j X.A) (hk : k ≤ j) (ho : QE X o to fo) (ha : QA X (e :: es) t f)
    (hst : starEach (e :: es) X.env = (false, eval e X.env) :: starEach es X.env := by rfl) (hpl : (backTo pos (starEach es X.env)).any (·.1) = false := by rfl)
    (ht : eval (.Call (.Attribute o m apos) (e :: es) [] pos) X.env = (do
      let ov ← eval o X.env
      standAt apos.atName
      let (f, first) ← holding [ov] (getMethod ov m pl)
      callWith pos f first (backTo pos (starEach (e :: es) X.env)) (backToKw pos (keywordEach [] X.env))) := by rfl) :
    QE X (.Call (.Attribute o m apos) (e :: es) [] pos) (tMeth C m (toSp X.K sp) [] C8.E0 to t) (fMeth C m sp fo f) :=
  ⟨C8.pe_mt c hr hk ho.p ha.p hst hpl ht, fun σ H ρ M Q Qp s R q l => ho.a σ H ρ M _ _ s R q fun x H1 p1 M1 e1 r1 i1 q1 => by
    cases p1 with
    | ref a =>
      cases (show x = V.ref a from i1)
      obtain ⟨dx, fs, hm, hl, q2⟩ := q1
      obtain ⟨gs, hg, ok⟩ := r1 a _ hm
      refine ⟨a, dx, gs, rfl, hg, fs_none ok hl, ha.a σ H1 ρ M1 _ _ (s.ext R e1) r1 q2 fun vs H2 ps M2 e2 r2 i2 q3 => ?_⟩
      show toSp X.K sp (V.ref a :: (vs ++ [])) H2 Q C8.E0
      rw [List.append_nil]
      exact ⟨_, M2, Qp, IsPs.cons (p := .ref a) rfl i2, r2, q3, (l.ext e1).ext e2⟩
    | _ => exact q1.elim⟩
/-- o.f, a property -/
structure PropCal (P : Program) (w : World) (K : PySem.W.Frag) (mg : Str → Option Value) (base : Heap) (k : Nat) (C : Addr) (f : Str) (sp : Sp) : Prop where
  ex : ∃ (p g : Addr) (fd : FuncData) (ps : List Str), Cls K C ∧ PropOf K C f p g ∧ FnOk P w K mg base C8.CX0 k g fd ps sp ∧ Binds K fd ps []
def fProp (C : Addr) (sp : PSp) (fo : FE) : FE := fun ρ M Q => fo ρ M fun x M1 => match x with
  | .ref a => ∃ dx fs, M1 a = some (.ins C dx fs) ∧ sp [.ref a] M1 Q
  | _ => False
theorem qe_prop {X : Cx} {o : Expr} {to : TE} {fo : FE} {f : Str} {pos : Pos} {C : Addr} {k j : Nat} {sp : PSp} (c : PropCal X.prog X.w X.K X.mg X.base k C f (toSp X.K sp)) (hr : Room j X.A) (hk : k + 1 ≤ j) (ho : QE X o to fo)
    (hb : attributeBase o f X.env (eval o X.env) = eval o X.env := by rfl) : QE X (.Attribute o f pos) (tProp C (toSp X.K sp) [] C8.E0 to) (fProp C sp fo) := by
  obtain ⟨p, g, fd, ps, hc, hp, F, b⟩ := c.ex
  refine ⟨pe_prop ho.p hc hp F (hr.mono hk) b .nil C8.pass0 hb, fun σ H ρ M Q Qp s R q l => ho.a σ H ρ M _ _ s R q fun x H1 p1 M1 e1 r1 i1 q1 => ?_⟩
  cases p1 with
  | ref a =>
    cases (show x = V.ref a from i1)
    obtain ⟨dx, fs, hm, q2⟩ := q1
    obtain ⟨gs, hg, ok⟩ := r1 a _ hm
    exact ⟨a, dx, gs, rfl, hg, _, M1, Qp, IsPs.cons (p := .ref a) rfl IsPs.nil, r1, q2, l.ext e1⟩
  | _ => exact q1.elim
/-- C(..) -/
def fMake (C : Addr) (sp : PSp) (fa : FA) : FE := fun ρ M Q => fa ρ M fun ps M1 => ∀ x dx M', M1 x = none → Le M1 M' → M' x = some (.ins C dx []) → sp (.ref x :: ps) M' fun v M2 => v = .non ∧ Q (.ref x) M2
theorem ae_make {K : PySem.W.Frag} {t : TA} {f : FA} {C : Addr} {sp : PSp} (ha : AA K t f) : AE K (tMake C (toSp K sp) [] C8.E0 t) (fMake C sp f) := fun σ H ρ M Q Qp s R q l =>
  ha σ H ρ M _ _ s R q fun vs H1 ps M1 e1 r1 i1 q1 => by
    intro x dx hx hdx hne
    show toSp K sp (V.ref x :: (vs ++ [])) _ _ C8.E0
    rw [List.append_nil]
    have hx2 : upd H1 dx (.own x) x = none := by rw [upd_ne (fun e => hne e.symm)]; exact hx
    have ra := r1.new (o := .own x) hdx
    have ea : Ext H1 M1 (upd H1 dx (.own x)) M1 := Ext.new hdx
    have kk : MOk K (upd (upd H1 dx (.own x)) x (.ins C dx [])) (updM M1 x (.ins C dx [])) x (.ins C dx []) := ⟨[], upd_same, rfl⟩
    have rb := ra.newM hx2 kk
    have eb : Ext (upd H1 dx (.own x)) M1 (upd (upd H1 dx (.own x)) x (.ins C dx [])) (updM M1 x (.ins C dx [])) := Ext.newM hx2
    have mx := r1.none hx
    refine ⟨_, _, _, IsPs.cons (p := .ref x) rfl (r1.isPs (ea.trans eb) i1), rb, q1 x dx _ mx (Le.upd mx) updM_same, fun v H2 p M2 e2 r2 i2 q2 => ?_⟩
    obtain ⟨rfl, q3⟩ := q2
    exact ⟨i2, l _ H2 (.ref x) M2 (((e1.trans ea).trans eb).trans e2) r2 rfl q3⟩
theorem qe_mk {X : Cx} {e : Expr} {es : List Expr} {t : TA} {f : FA} {x : Str} {p pos : Pos} {C : Addr} {k j : Nat} {sp : PSp} (c : C8.Mak X.prog X.w X.K X.mg X.base k x C (toSp X.K sp) []) (hr : Room j X.A) (hk : k + 1 ≤ j) (hg : Gl X x) (ha : QA X (e :: es) t f)
    (hdb : (x == ("__debug__" : Str)) = false := by decide) (he : starEach (e :: es) X.env = (false, eval e X.env) :: starEach es X.env := by rfl) (hpl : (backTo pos (starEach es X.env)).any (·.1) = false := by rfl) :
    QE X (.Call (.Name x p) (e :: es) [] pos) (tMake C (toSp X.K sp) [] C8.E0 t) (fMake C sp f) := ⟨C8.pe_mk c hr hk hg ha.p hdb he hpl, ae_make ha.a⟩
/-! ### a property, written -/
structure PropSet (K : PySem.W.Frag) (C : Addr) (f : Str) (p g : Addr) : Prop where
  tk : PySem.W.takerIn K C f = some (some (.ref p))
  ty : PySem.W.typeIn K (.ref p) = some (.type "property")
  rec_ : ∃ a rest, PySem.W.recIn K p "property" = some (a :: .ref g :: rest)
section
variable {X : Cx} {CX : CXT} {k : Nat} {C p g a dx : Addr} {fs : List (Str × V)} {f : Str} {fd : FuncData} {ps : List Str} {sp : Sp} {E : XK}
theorem setprop_ok {pins : List (Addr × Obj)} {σ : L2.St} {H : Hp} {s : Shared} {Q : Unit → Shared → Prop} {Qv : VK} {y : V} {u : Value} (I : Inv X pins σ H s) (ea : H a = some (.ins C dx fs)) (c : Cls X.K C) (hp : PropSet X.K C f p g)
    (F : FnOk X.prog X.w X.K X.mg X.base CX k g fd ps sp) (hr : Room (k + 2) X.A) (hb : Binds X.K fd ps []) (hx : Passes CX X E) (ry : RelV y u) (h : sp [.ref a, y] H Qv E) (hQ : ∀ v H' s', Inv X pins σ H' s' → Qv v H' → Q () s') :
    wpAny (model X.prog X.w) X.A (setAttr (.ref a) f u) Q X.xe s := by
  obtain ⟨mA, O, _, _, _, _⟩ := ins_get I.hok ea
  obtain ⟨od, J, _⟩ := O.look
  obtain ⟨a0, rest, hrec⟩ := hp.rec_
  have I1 := I.tok (s.toks + 1)
  have hl : ([Value.ref a, u] ++ ([] : List Value)).length = ps.length := by
    rw [← F.len _ _ _ _ h]
    rfl
  refine PySem.W.set_plain I.kIn J c.sa (PySem.W.osa_descr (s := { s with toks := s.toks + 1 }) PySem.W.KF.slot_pset I1.kIn J c.po hp.tk hp.ty (PySem.W.prop_set (s := { s with toks := s.toks + 1 }) I1.kIn hrec ?_))
  refine codeAny_mono (F.run X.A.in1.in1 X.stack { s with toks := s.toks + 1 } H ⟨[.ref a, u], []⟩ [.ref a, u] [.ref a, y] Qv E hr.in1.in1 I1.env0.in1.in1 (hb _ [.ref a, u] I1.kIn hl) (.cons rfl (.cons ry .nil)) h) fun r s' hq => ?_
  cases r with
  | error er => exact hx pins σ H { s with toks := s.toks + 1 } er s' I1 hq
  | ok fl =>
    cases fl with
    | ret u =>
      obtain ⟨v, H', I3, rv, q3⟩ := I1.after hq
      exact hQ v H' s' I3 q3
    | next => exact False.elim hq
    | brk => exact False.elim hq
    | cont => exact False.elim hq
end
/-- o.f = value, a property -/
def sPropSet (C : Addr) (sp : Sp) (E : XK) (to tv : TE) : TS := fun D σ H => tv σ H fun y H1 => to σ H1 fun x H2 => ∃ a dx fs, x = .ref a ∧ H2 a = some (.ins C dx fs) ∧ sp [.ref a, y] H2 (fun _ H3 => D.nx σ H3) E
theorem ps_propSet {X : Cx} {CX : CXT} {k : Nat} {C p g : Addr} {f : Str} {fd : FuncData} {ps : List Str} {sp : Sp} {E : XK} {o value : Expr} {to tv : TE} {pos pos' : Pos} (ho : PE X o to) (hv : PE X value tv) (c : Cls X.K C) (hp : PropSet X.K C f p g)
    (F : FnOk X.prog X.w X.K X.mg X.base CX k g fd ps sp) (hr : Room (k + 2) X.A) (hb : Binds X.K fd ps []) (hx : Passes CX X E) (hs : swapsWith value (some (.Attribute o f pos')) pos.line X.env = pure false) : PS X (.Assign [.Attribute o f pos'] value pos) (sPropSet C sp E to tv) := by
  refine ⟨fun pins s σ H D I h => ?_⟩
  refine plainObj_wpAny_Assign_Attribute (thn (hv.run pins s σ H _ I h) fun u s1 ⟨y, H1, I1, ry, q⟩ => thn (ho.run pins s1 σ H1 _ I1 q) fun ov s2 ⟨x, H2, I2, rx, a, dx, fs, ex, ea, q2⟩ => ?_) hs
  subst ex
  obtain rfl : ov = Value.ref a := rx
  exact setprop_ok I2 ea c hp F hr hb hx ry q2 fun v H' s3 I3 q3 => ⟨σ, H', I3, q3⟩
structure SetCal (P : Program) (w : World) (K : PySem.W.Frag) (mg : Str → Option Value) (base : Heap) (k : Nat) (C : Addr) (f : Str) (sp : Sp) : Prop where
  ex : ∃ (p g : Addr) (fd : FuncData) (ps : List Str), Cls K C ∧ PropSet K C f p g ∧ FnOk P w K mg base C8.CX0 k g fd ps sp ∧ Binds K fd ps []
def fPropSet (C : Addr) (sp : PSp) (fo fv : FE) : FS := fun D ρ M => fv ρ M fun y M1 => fo ρ M1 fun x M2 => match x with
  | .ref a => ∃ dx fs, M2 a = some (.ins C dx fs) ∧ sp [.ref a, y] M2 fun _ M3 => D.nx ρ M3
  | _ => False
theorem qs_propSet {X : Cx} {o value : Expr} {to tv : TE} {fo fv : FE} {f : Str} {pos pos' : Pos} {C : Addr} {k j : Nat} {sp : PSp} (c : SetCal X.prog X.w X.K X.mg X.base k C f (toSp X.K sp)) (hr : Room j X.A) (hk : k + 2 ≤ j) (ho : QE X o to fo) (hv : QE X value tv fv)
    (hs : swapsWith value (some (.Attribute o f pos')) pos.line X.env = pure false := by rfl) : QS X (.Assign [.Attribute o f pos'] value pos) (sPropSet C (toSp X.K sp) C8.E0 to tv) (fPropSet C sp fo fv) := by
  obtain ⟨p, g, fd, ps, hc, hp, F, b⟩ := c.ex
  refine ⟨ps_propSet ho.p hv.p hc hp F (hr.mono hk) b C8.pass0 hs, fun D Dp σ H ρ M s R q l => hv.a σ H ρ M _ _ s R q fun y H1 p1 M1 e1 r1 i1 q1 => ho.a σ H1 ρ M1 _ _ (s.ext R e1) r1 q1 fun x H2 p2 M2 e2 r2 i2 q2 => ?_⟩
  cases p2 with
  | ref a =>
    cases (show x = V.ref a from i2)
    obtain ⟨dx, fs, hm, q3⟩ := q2
    obtain ⟨gs, hg, ok⟩ := r2 a _ hm
    have s2 := (s.ext R e1).ext r1 e2
    refine ⟨a, dx, gs, rfl, hg, _, M2, _, IsPs.cons (p := .ref a) rfl (IsPs.cons (r1.isP e2 i1) IsPs.nil), r2, q3, fun v H3 p3 M3 e3 r3 i3 q4 => ?_⟩
    exact l.nx σ H3 ρ M3 ((e1.trans e2).trans e3) r3 (s2.ext r2 e3) q4
  | _ => exact q2.elim
/-! ### a class in a local name, made; a classmethod -/
def tMakeV (i : Nat) (C : Addr) (sp : Sp) (t : TA) : TE := fun σ H Q => σ[i]? = some (some (.ref C)) ∧ tMake C sp [] C8.E0 t σ H Q
theorem pe_mkV {X : Cx} {e : Expr} {es : List Expr} {t : TA} {x cn : Str} {p pos : Pos} {C : Addr} {i k j : Nat} {sp : Sp} (c : C8.Mak X.prog X.w X.K X.mg X.base k cn C sp []) (hr : Room j X.A) (hk : k + 1 ≤ j) (hN : X.N[i]? = some x) (hv : Vis X.env.scope x) (ha : PA X (e :: es) t)
    (hd : (x == ("__debug__" : Str)) = false := by decide) (hcd : (x == ("__classdict__" : Str)) = false := by decide)
    (he : starEach (e :: es) X.env = (false, eval e X.env) :: starEach es X.env := by rfl) (hpl : (backTo pos (starEach es X.env)).any (·.1) = false := by rfl) : PE X (.Call (.Name x p) (e :: es) [] pos) (tMakeV i C sp t) := by
  obtain ⟨f, fd, ps, ds, M, F, hm, b, d⟩ := c.ex
  refine ⟨fun pins s σ H Q I h => ?_⟩
  refine wpAny_Call_Name_kw (thn ((pe_var (pos := p) hN hv hd hcd).run pins s σ H (fun v H1 => v = .ref C ∧ H1 = H) I ⟨.ref C, h.1, rfl, rfl⟩) fun u s1 ⟨v, H1, I1, r1, q1⟩ => ?_)
  obtain ⟨rfl, rfl⟩ := q1
  cases r1
  refine PySem.W.callWith_K (h₀ := X.base) I.ok.mod.kin M.kp (thn (ha.run pos pins s1 σ _ _ I1 h.2) fun us s2 ⟨vs, H2, I2, r, q⟩ => ⟨I2.kIn, ?_⟩) he hpl
  exact run_make M F (hr.mono hk) b d C8.pass0 I2 r q
def fMakeV (i : Nat) (C : Addr) (sp : PSp) (fa : FA) : FE := fun ρ M Q => nth ρ i = some (.ref C) ∧ fMake C sp fa ρ M Q
theorem qe_mkV {X : Cx} {e : Expr} {es : List Expr} {t : TA} {f : FA} {x cn : Str} {p pos : Pos} {C : Addr} {i k j : Nat} {sp : PSp} (c : C8.Mak X.prog X.w X.K X.mg X.base k cn C (toSp X.K sp) []) (hr : Room j X.A) (hk : k + 1 ≤ j) (hN : X.N[i]? = some x) (hv : Vis X.env.scope x) (ha : QA X (e :: es) t f)
    (hd : (x == ("__debug__" : Str)) = false := by decide) (hcd : (x == ("__classdict__" : Str)) = false := by decide)
    (he : starEach (e :: es) X.env = (false, eval e X.env) :: starEach es X.env := by rfl) (hpl : (backTo pos (starEach es X.env)).any (·.1) = false := by rfl) : QE X (.Call (.Name x p) (e :: es) [] pos) (tMakeV i C (toSp X.K sp) t) (fMakeV i C sp f) :=
  ⟨pe_mkV c hr hk hN hv ha.p hd hcd he hpl, fun σ H ρ M Q Qp s R q l => by
    obtain ⟨v, e1, e2⟩ := s.2 i _ q.1
    cases (show v = V.ref C from e2)
    exact ⟨e1, ae_make ha.a σ H ρ M Q Qp s R q.2 l⟩⟩
structure CMCal (P : Program) (w : World) (K : PySem.W.Frag) (mg : Str → Option Value) (base : Heap) (k : Nat) (C : Addr) (m : Str) (sp : Sp) : Prop where
  ex : ∃ (mc : Value) (p g : Addr), ClX.CRead K C mc ∧ ClX.CMet K C mc m p g ∧ FnR P w K mg base C8.CX0 k g sp
def fCMeth (C : Addr) (sp : PSp) (fo : FE) (fa : FA) : FE := fun ρ M Q => fo ρ M fun x M1 => match x with
  | .ref a => a = C ∧ fa ρ M1 fun ps M2 => sp (.ref C :: ps) M2 Q
  | _ => False
theorem qe_cm {X : Cx} {o e : Expr} {es : List Expr} {to : TE} {fo : FE} {t : TA} {f : FA} {m : Str} {pos apos : Pos} {C : Addr} {k j : Nat} {sp : PSp} {pl : Sem Bool} (c : CMCal X.prog X.w X.K X.mg X.base k C m (toSp X.K sp)) (hr : Room j X.A) (hk : k ≤ j) (ho : QE X o to fo) (ha : QA X (e :: es) t f)
    (hst : starEach (e :: es) X.env = (false, eval e X.env) :: starEach es X.env := by rfl) (hpl : (backTo pos (starEach es X.env)).any (·.1) = false := by rfl)
    (ht : eval (.Call (.Attribute o m apos) (e :: es) [] pos) X.env = (do
      let ov ← eval o X.env
      standAt apos.atName
      let (f, first) ← holding [ov] (getMethod ov m pl)
      callWith pos f first (backTo pos (starEach (e :: es) X.env)) (backToKw pos (keywordEach [] X.env))) := by rfl) :
    QE X (.Call (.Attribute o m apos) (e :: es) [] pos) (ClX.tCMeth C (toSp X.K sp) C8.E0 to t) (fCMeth C sp fo f) := by
  obtain ⟨mc, p, g, h1, h2, F⟩ := c.ex
  refine ⟨ClX.pe_cmeth ho.p h1 h2 F (hr.mono hk) C8.pass0 ha.p hst hpl ht, fun σ H ρ M Q Qp s R q l => ho.a σ H ρ M _ _ s R q fun x H1 p1 M1 e1 r1 i1 q1 => ?_⟩
  cases p1 with
  | ref a =>
    obtain ⟨rfl, q2⟩ := q1
    refine ⟨i1, ha.a σ H1 ρ M1 _ _ (s.ext R e1) r1 q2 fun vs H2 ps M2 e2 r2 i2 q3 => ?_⟩
    exact ⟨_, M2, Qp, IsPs.cons (p := .ref a) rfl i2, r2, q3, (l.ext e1).ext e2⟩
  | _ => exact q1.elim
/-! ### a method's def -/
structure MStd (K : PySem.W.Frag) (C : Addr) (m qual : Str) (st : Stmt) : Prop where
  ex : ∃ f fd, FunD K m qual (defArgs st) (defBody st) (defScope st) [] [] f fd ∧ Cls K C ∧ Meth K C m f
section
variable {P : Program} {w : World} {K : PySem.W.Frag} {mg : Str → Option Value} {base : Heap}
theorem MStd.met {C : Addr} {m qual : Str} {st : Stmt} {N ps : List Str} {k : Nat} {sp : PSp} (F : MStd K C m qual st) (S : FnScope N ps (defScope st)) (len : ∀ vs M Q, sp vs M Q → vs.length = ps.length)
    (hbind : ∀ (kV doc pm : Value) (an : Option Addr) (cdv ct : Value) (us : List Value), us.length = ps.length → bindArgs (PySem.W.fnOf m qual (defArgs st) (defBody st) (defScope st) .none kV doc pm an cdv ct) ⟨us, []⟩ = pure (ps.zip us))
    (hb : ∀ (f : Addr) (cdv : Value) (A : Around) (outer : List Env) (s : Shared) (H : Hp) (E : XK), Room k (A.deeper (PyProof.Rows.envOfC qual (defScope st) s.heap.objs.size f cdv)) →
      ∃ t g, QSs (cxOf C8.CX0 P w K mg base N qual (defScope st) f cdv A outer s H E).nox (defBody st) t g ∧ ∀ vs M Q, sp vs M Q → g (fnEnds Q) (startP N vs) M) : C8.Met P w K mg base (k + 1) C m (toSp K sp) [] := by
  obtain ⟨f, fd, F1, hc, hm⟩ := F.ex
  exact ⟨f, fd, ps, [], hc, hm, fn_body F1 S len (hb f), F1.bindsN hbind, .nil⟩
/-- a property's getter -/
structure PStd (K : PySem.W.Frag) (C : Addr) (m qual : Str) (st : Stmt) : Prop where
  ex : ∃ p f fd, FunD K m qual (defArgs st) (defBody st) (defScope st) [] [] f fd ∧ Cls K C ∧ PropOf K C m p f
theorem PStd.prop {C : Addr} {m qual : Str} {st : Stmt} {N ps : List Str} {k : Nat} {sp : PSp} (F : PStd K C m qual st) (S : FnScope N ps (defScope st)) (len : ∀ vs M Q, sp vs M Q → vs.length = ps.length)
    (hbind : ∀ (kV doc pm : Value) (an : Option Addr) (cdv ct : Value) (us : List Value), us.length = ps.length → bindArgs (PySem.W.fnOf m qual (defArgs st) (defBody st) (defScope st) .none kV doc pm an cdv ct) ⟨us, []⟩ = pure (ps.zip us))
    (hb : ∀ (f : Addr) (cdv : Value) (A : Around) (outer : List Env) (s : Shared) (H : Hp) (E : XK), Room k (A.deeper (PyProof.Rows.envOfC qual (defScope st) s.heap.objs.size f cdv)) →
      ∃ t g, QSs (cxOf C8.CX0 P w K mg base N qual (defScope st) f cdv A outer s H E).nox (defBody st) t g ∧ ∀ vs M Q, sp vs M Q → g (fnEnds Q) (startP N vs) M) : PropCal P w K mg base (k + 1) C m (toSp K sp) := by
  obtain ⟨p, f, fd, F1, hc, hm⟩ := F.ex
  exact ⟨p, f, fd, ps, hc, hm, fn_body F1 S len (hb f), F1.bindsN hbind⟩
end
section
variable {P : Program} {w : World} {K : PySem.W.Frag} {mg : Str → Option Value} {base : Heap}
/-- a property's setter -/
structure SStd (K : PySem.W.Frag) (C : Addr) (m qual : Str) (st : Stmt) : Prop where
  ex : ∃ p f fd, FunD K m qual (defArgs st) (defBody st) (defScope st) [] [] f fd ∧ Cls K C ∧ PropSet K C m p f
theorem SStd.set {C : Addr} {m qual : Str} {st : Stmt} {N ps : List Str} {k : Nat} {sp : PSp} (F : SStd K C m qual st) (S : FnScope N ps (defScope st)) (len : ∀ vs M Q, sp vs M Q → vs.length = ps.length)
    (hbind : ∀ (kV doc pm : Value) (an : Option Addr) (cdv ct : Value) (us : List Value), us.length = ps.length → bindArgs (PySem.W.fnOf m qual (defArgs st) (defBody st) (defScope st) .none kV doc pm an cdv ct) ⟨us, []⟩ = pure (ps.zip us))
    (hb : ∀ (f : Addr) (cdv : Value) (A : Around) (outer : List Env) (s : Shared) (H : Hp) (E : XK), Room k (A.deeper (PyProof.Rows.envOfC qual (defScope st) s.heap.objs.size f cdv)) →
      ∃ t g, QSs (cxOf C8.CX0 P w K mg base N qual (defScope st) f cdv A outer s H E).nox (defBody st) t g ∧ ∀ vs M Q, sp vs M Q → g (fnEnds Q) (startP N vs) M) : SetCal P w K mg base (k + 1) C m (toSp K sp) := by
  obtain ⟨p, f, fd, F1, hc, hm⟩ := F.ex
  exact ⟨p, f, fd, ps, hc, hm, fn_body F1 S len (hb f), F1.bindsN hbind⟩
/-- all is given, though the def has a default -/
theorem binds_all {x qual : Str} {params : Arguments} {body : List Stmt} {scope : Scope} {dvs : List V} {kws : List (Str × V)} {f : Addr} {fd : FuncData} {ps : List Str} (F : FunD K x qual params body scope dvs kws f fd) (hd : dvs ≠ [])
    (h : ∀ (T : Addr) (kV doc pm : Value) (an : Option Addr) (cdv ct : Value) (us its : List Value), us.length = ps.length → its.length = dvs.length →
      ∃ k, bindArgs (PySem.W.fnOf x qual params body scope (.ref T) kV doc pm an cdv ct) ⟨us, []⟩ = seqItems? (.ref T) >>= k ∧ k (some its.toArray) = pure (ps.zip (us ++ its.drop dvs.length))) : Binds K fd ps [] := by
  obtain ⟨ds, hv, hb⟩ := F.binds1 (ps := ps) ps.length dvs.length hd (by omega) h
  rw [List.drop_length] at hv
  cases hv
  exact hb
/-- __init__, with defaults -/
structure IStd (K : PySem.W.Frag) (mg : Str → Option Value) (x : Str) (C : Addr) (qual : Str) (st : Stmt) (dvs : List V) : Prop where
  ex : ∃ f fd, FunD K "__init__" qual (defArgs st) (defBody st) (defScope st) dvs [] f fd ∧ Mk K C f ∧ mg x = some (.ref C)
theorem IStd.mak {x : Str} {C : Addr} {qual : Str} {st : Stmt} {dvs : List V} {N ps : List Str} {k : Nat} {sp : PSp} (F : IStd K mg x C qual st dvs) (S : FnScope N ps (defScope st)) (len : ∀ vs M Q, sp vs M Q → vs.length = ps.length) (hd : dvs ≠ [])
    (hbind : ∀ (T : Addr) (kV doc pm : Value) (an : Option Addr) (cdv ct : Value) (us its : List Value), us.length = ps.length → its.length = dvs.length →
      ∃ k, bindArgs (PySem.W.fnOf "__init__" qual (defArgs st) (defBody st) (defScope st) (.ref T) kV doc pm an cdv ct) ⟨us, []⟩ = seqItems? (.ref T) >>= k ∧ k (some its.toArray) = pure (ps.zip (us ++ its.drop dvs.length)))
    (hb : ∀ (f : Addr) (cdv : Value) (A : Around) (outer : List Env) (s : Shared) (H : Hp) (E : XK), Room k (A.deeper (PyProof.Rows.envOfC qual (defScope st) s.heap.objs.size f cdv)) →
      ∃ t g, QSs (cxOf C8.CX0 P w K mg base N qual (defScope st) f cdv A outer s H E).nox (defBody st) t g ∧ ∀ vs M Q, sp vs M Q → g (fnEnds Q) (startP N vs) M) : C8.Mak P w K mg base (k + 1) x C (toSp K sp) [] := by
  obtain ⟨f, fd, F1, hm, hx⟩ := F.ex
  exact ⟨f, fd, ps, [], hm, fn_body F1 S len (hb f), hx, binds_all F1 hd hbind, .nil⟩
/-- a classmethod, with defaults -/
structure CStd (K : PySem.W.Frag) (C : Addr) (m qual : Str) (st : Stmt) (dvs : List V) : Prop where
  ex : ∃ mc p f fd, FunD K m qual (defArgs st) (defBody st) (defScope st) dvs [] f fd ∧ ClX.CRead K C mc ∧ ClX.CMet K C mc m p f
theorem CStd.cm {C : Addr} {m qual : Str} {st : Stmt} {dvs : List V} {N ps : List Str} {k : Nat} {sp : PSp} (F : CStd K C m qual st dvs) (S : FnScope N ps (defScope st)) (len : ∀ vs M Q, sp vs M Q → vs.length = ps.length) (hd : dvs ≠ [])
    (hbind : ∀ (T : Addr) (kV doc pm : Value) (an : Option Addr) (cdv ct : Value) (us its : List Value), us.length = ps.length → its.length = dvs.length →
      ∃ k, bindArgs (PySem.W.fnOf m qual (defArgs st) (defBody st) (defScope st) (.ref T) kV doc pm an cdv ct) ⟨us, []⟩ = seqItems? (.ref T) >>= k ∧ k (some its.toArray) = pure (ps.zip (us ++ its.drop dvs.length)))
    (hb : ∀ (f : Addr) (cdv : Value) (A : Around) (outer : List Env) (s : Shared) (H : Hp) (E : XK), Room k (A.deeper (PyProof.Rows.envOfC qual (defScope st) s.heap.objs.size f cdv)) →
      ∃ t g, QSs (cxOf C8.CX0 P w K mg base N qual (defScope st) f cdv A outer s H E).nox (defBody st) t g ∧ ∀ vs M Q, sp vs M Q → g (fnEnds Q) (startP N vs) M) : CMCal P w K mg base (k + 1) C m (toSp K sp) := by
  obtain ⟨mc, p, f, fd, F1, h1, h2⟩ := F.ex
  refine ⟨mc, p, f, h1, h2, ((fn_body F1 S len (hb f)).raw (binds_all F1 hd hbind) .nil).imp fun vs H Q E h => ?_⟩
  rw [List.append_nil]
  exact h
end
end CR

set_option Elab.async false
set_option linter.all false
set_option maxRecDepth 100000
set_option maxHeartbeats 4000000
/-! PV14: the first row of a law (the script read), a law's own body. -/
namespace CR
open PySem PySem.Spec L2
/-- d = begin(script): a list of the ints, 0, 0, 7 -/
def spBeg (K : PySem.W.Frag) : Sp := fun vs H Q _ => ∃ (a : Addr) (ns : List Int), vs = [.ref a] ∧ SqL K H a (ns.map V.int) ∧ ns.length ≤ 63 ∧
  ∀ D p, H D = none → upd H D (.lst (ns.map V.int)) p = none → Q (.ref p) (upd (upd H D (.lst (ns.map V.int))) p (.lst [.ref D, .int 0, .int 0, .int 7]))
theorem spBeg_len {K : PySem.W.Frag} : ∀ vs H Q E, spBeg K vs H Q E → vs.length = 1 := fun vs H Q E ⟨a, ns, e, _⟩ => by rw [e]; rfl
theorem sqL_upd {K : PySem.W.Frag} {H : Hp} {a D : Addr} {xs : List V} {o : HO} (n : H D = none) (h : SqL K H a xs) : SqL K (upd H D o) a xs := by
  rcases h with (h | ⟨u, h⟩) | h
  · exact .inl (.inl (by rw [upd_ne (ne_of_none h n)]; exact h))
  · exact .inl (.inr ⟨u, by rw [upd_ne (ne_of_none h n)]; exact h⟩)
  · exact .inr h
/-- what that row asks, answered -/
theorem beg_lc {K : PySem.W.Frag} {H : Hp} {σ : L2.St} {Q : VK} {a : Addr} {ns : List Int} {i j : Nat} (hij : i ≠ j) (hj : j < σ.length) (hσ : σ[i]? = some (some (.ref a))) (hS : SqL K H a (ns.map V.int)) (hl : ns.length ≤ 63)
    (q : ∀ D, H D = none → Q (.ref D) (upd H D (.lst (ns.map V.int)))) : tLc (iAny K (tVar i)) (gName j) tYes (tCB rInt (tCons (tVar j) tNil)) [j] σ H Q := by
  refine ⟨.ref a, hσ, a, rfl, .inl ⟨⟨_, hS⟩, fun D nD => ⟨fun k m H' => H' = upd H D (.lst ((ns.take k).map V.int)) ∧ k ≤ ns.length ∧ m = ns.length - k, ⟨_, rfl, Nat.zero_le _, rfl⟩, ?_⟩⟩⟩
  rintro k m H' ⟨rfl, hk, rfl⟩
  have S' : SqL K (upd H D (.lst ((ns.take k).map V.int))) a (ns.map V.int) := sqL_upd nD hS
  by_cases lt : k < ns.length
  · refine .inr ⟨⟨ns.map V.int, .int ns[k], S', by simp [lt]⟩, fun H2 => H2 = upd H D (.lst ((ns.take (k + 1)).map V.int)), fun H2 e => ⟨_, Nat.sub_lt_sub_left lt (Nat.lt_succ_self k), e, lt, rfl⟩, fun x H2 y => ?_⟩
    obtain ⟨e1, e2⟩ := y
    subst e1
    have ex : x = .int ns[k] := by
      have := e2 _ S'
      simp [lt] at this
      exact this.symm
    subst ex
    have hw : ((wipe σ [j]).set j (some (V.int ns[k])))[j]? = some (some (.int ns[k])) := List.getElem?_set_self (by show j < (σ.set j none).length; rw [List.length_set]; exact hj)
    refine ⟨set_wipe σ j _, ?_⟩
    dsimp only [tYes]
    rw [if_pos rfl]
    refine ⟨.int ns[k], hw, .inl (.inl ⟨ns[k], rfl, _, upd_same, ?_, ?_⟩)⟩
    · rw [List.length_map, List.length_take]
      exact Nat.lt_of_le_of_lt (Nat.min_le_left _ _) (Nat.lt_of_lt_of_le lt (Nat.le_trans hl (by decide)))
    · show upd (upd H D _) D _ = _
      have e3 : (ns.take k).map V.int ++ [V.int ns[k]] = (ns.take (k + 1)).map V.int := by
        rw [List.take_succ, List.getElem?_eq_getElem lt, List.map_append]
        rfl
      rw [e3]
      funext b
      by_cases eb : b = D
      · subst eb
        rw [upd_same, upd_same]
      · rw [upd_ne eb, upd_ne eb, upd_ne eb]
  · have ek : k = ns.length := by omega
    refine .inl ⟨⟨_, S', by rw [List.length_map]; omega⟩, ?_⟩
    rw [ek, List.take_length]
    exact q D nD
/-- the draw object's first state -/
theorem beg_drw {H : Hp} {D p : Addr} {ns : List Int} (hl : ns.length ≤ 63) (nD : H D = none) (np : upd H D (.lst (ns.map V.int)) p = none) : DrwOk (upd (upd H D (.lst (ns.map V.int))) p (.lst [.ref D, .int 0, .int 0, .int 7])) p D := by
  have e : D ≠ p := fun e => by rw [← e, upd_same] at np; cases np
  exact ⟨ns, 0, 0, 7, upd_same, by rw [upd_ne e]; exact upd_same, hl, by decide, ⟨by decide, Nat.pow_pos (by decide)⟩, by decide⟩
/-- only the draw object is tracked -/
def M0 (d : Addr) : Mp := fun b => if b = d then some .drw else none
theorem M0_at {d : Addr} : M0 d d = some .drw := by unfold M0; rw [if_pos rfl]
theorem M0_rep {K : PySem.W.Frag} {H : Hp} {d D : Addr} (h : DrwOk H d D) (ne : D ≠ d) : Rep K H (M0 d) := fun b o e => by
  unfold M0 at e
  by_cases eb : b = d
  · rw [if_pos eb] at e
    cases e
    subst eb
    exact ⟨D, by unfold M0; rw [if_neg ne], h⟩
  · rw [if_neg eb] at e
    cases e
/-- the slots behind that row -/
def lawS : List Str → Addr → PSt
  | [], _ => []
  | [_], _ => [none]
  | _ :: _ :: r, d => none :: some (.ref d) :: startP r []
theorem lawS_length (N : List Str) (d : Addr) : (lawS N d).length = N.length := by
  match N with
  | [] => rfl
  | [_] => rfl
  | _ :: _ :: r => simp [lawS, startP_length]
/-- a law that holds -/
def spLaw (K : PySem.W.Frag) : Sp := fun vs H Q _ => ∃ (a : Addr) (ns : List Int), vs = [.ref a] ∧ SqL K H a (ns.map V.int) ∧ ns.length ≤ 63 ∧ ∀ H', Q (.bl true) H'
section
variable {P : Program} {w : World} {K : PySem.W.Frag} {mg : Str → Option Value} {base : Heap}
theorem beg_ok {x : Str} {st : Stmt} {N : List Str} {n : Str} (F : Std K mg x st) (S : FnScope N [n] (defScope st)) (hN : 1 < N.length)
    (hbind : ∀ (kV doc pm : Value) (an : Option Addr) (cdv ct : Value) (us : List Value), us.length = 1 → bindArgs (PySem.W.fnOf x x (defArgs st) (defBody st) (defScope st) .none kV doc pm an cdv ct) ⟨us, []⟩ = pure ([n].zip us))
    (hb : ∀ (f : Addr) (cdv : Value) (A : Around) (outer : List Env) (s : Shared) (H : Hp) (E : XK), PSs (cxOf CX0 P w K mg base N x (defScope st) f cdv A outer s H E).nox (defBody st) (tRet (tLst (tCons (tLc (iAny K (tVar 0)) (gName 1) tYes (tCB rInt (tCons (tVar 1) tNil)) [1]) (tCons (tC (.int 0)) (tCons (tC (.int 0)) (tCons (tC (.int 7)) tNil))))))) :
    C8.Cal P w K mg base 1 x (spBeg K) [] := by
  obtain ⟨f, fd, F1, hm⟩ := F.ex
  refine ⟨f, fd, [n], [], F1.ok S (fun vs H Q E h => spBeg_len vs H Q E h) (fun cdv A outer s H vs Q E hr h => ⟨_, PSs.nox (hb f cdv A outer s H E), ?_⟩), hm, F1.kp, F1.bindsN hbind, .nil⟩
  obtain ⟨a, ns, rfl, hS, hl, q⟩ := h
  dsimp only [tRet, tLst, tCons, tC, tNil]
  refine beg_lc (a := a) (ns := ns) (i := 0) (j := 1) (by decide) ?_ rfl hS hl (fun D nD => ⟨(by show 4 ≤ sizeLine; decide), fun p np => q D p nD np⟩)
  show 1 < (L2.start N [V.ref a]).length
  unfold L2.start
  rw [List.length_append, List.length_map, List.length_replicate]
  show 1 < 1 + (N.length - 1)
  omega
/-- the law: d = begin(script), and what follows -/
theorem law_ok {st s0 : Stmt} {rest : List Stmt} {N : List Str} {k : Nat} {f : Addr} {fd : FuncData} {dvs : List V} {kws : List (Str × V)} (F : FunD K "law" "law" (defArgs st) (defBody st) (defScope st) dvs kws f fd) (S : FnScope N ["script"] (defScope st)) (hN : 1 < N.length)
    (hbody : defBody st = s0 :: rest)
    (h0 : ∀ (f : Addr) (cdv : Value) (A : Around) (outer : List Env) (s : Shared) (H : Hp) (E : XK), Room k (A.deeper (PyProof.Rows.envOfC "law" (defScope st) s.heap.objs.size f cdv)) → PS (cxOf CX0 P w K mg base N "law" (defScope st) f cdv A outer s H E).nox s0 (tAsg (tCall (spBeg K) [] E0 (tCons (tVar 0) tNil)) (gName 1)))
    (hr : ∀ (f : Addr) (cdv : Value) (A : Around) (outer : List Env) (s : Shared) (H : Hp) (E : XK), Room k (A.deeper (PyProof.Rows.envOfC "law" (defScope st) s.heap.objs.size f cdv)) →
      ∃ t g, QSs (cxOf CX0 P w K mg base N "law" (defScope st) f cdv A outer s H E).nox rest t g ∧ ∀ d M, M d = some .drw → g { nx := fun _ _ => False, rt := fun p _ => p = .bl true } (lawS N d) M) :
    FnOk P w K mg base CX0 (k + 1) f fd ["script"] (spLaw K) := by
  refine F.ok S (fun vs H Q E ⟨a, ns, e, _⟩ => by rw [e]; rfl) (fun cdv A outer s H vs Q E hrm h => ?_)
  obtain ⟨t, g, hq, hg⟩ := hr f cdv A outer s H E hrm
  refine ⟨tSeq (tAsg (tCall (spBeg K) [] E0 (tCons (tVar 0) tNil)) (gName 1)) t, PSs.nox (by rw [hbody]; exact pss_cons (h0 f cdv A outer s H E hrm) hq.p), ?_⟩
  obtain ⟨a, ns, rfl, hS, hl, q⟩ := h
  refine ⟨.ref a, rfl, a, ns, rfl, hS, hl, fun D p nD np => ?_⟩
  have hd := beg_drw (ns := ns) hl nD np
  have ne : D ≠ p := fun e => by rw [← e, upd_same] at np; cases np
  have hlen : (L2.start N [V.ref a]).length = N.length := by
    unfold L2.start
    rw [List.length_append, List.length_map, List.length_replicate]
    show 1 + (N.length - 1) = _
    omega
  refine hq.a _ _ _ _ (lawS N p) (M0 p) ⟨?_, ?_⟩ (M0_rep hd ne) (hg p (M0 p) M0_at) ⟨?_, ?_, ?_, ?_⟩
  · rw [List.length_set, hlen, lawS_length]
  · intro i x e
    match N, i, e with
    | [], _, e => cases e
    | [_], 0, e => cases e
    | _ :: _ :: _, 0, e => cases e
    | _ :: _ :: r, 1, e =>
      cases e
      exact ⟨.ref p, List.getElem?_set_self (by rw [hlen]; exact hN), rfl⟩
    | _ :: _ :: r, i + 2, e =>
      have := nth_startP r [] i x e
      cases this
  · intro _ _ _ _ _ _ _ z
    exact z.elim
  · intro v H' p' M' _ _ i1 z
    rw [show p' = .bl true from z] at i1
    cases (show v = V.bl true from i1)
    exact q H'
  · intro _ _ _ _ _ _ _ z
    exact z.elim
  · intro _ _ _ _ _ _ _ z
    exact z.elim
end
end CR

set_option Elab.async false
set_option linter.all false
set_option maxRecDepth 100000
set_option maxHeartbeats 4000000
/-! PV15: the head's facts, in chunks, over a short list of addresses. -/
namespace CR
open PySem PySem.Spec L2
theorem DefA.funD {K : PySem.W.Frag} {d : DefA} (e : d.obs K = d.val) (c : d.ok K = true) : ∃ fd, FunD K d.name d.qual (defArgs d.st) (defBody d.st) (defScope d.st) d.dfl [] (d.at_.at_ K) fd := by
  obtain ⟨kp, c2⟩ := He.ba c
  unfold DefA.obs fnA at e
  cases q : K.lookup (d.at_.at_ K) with
  | none =>
    rw [q] at c2
    cases c2
  | some o =>
    obtain ⟨oc, od, dt, osl⟩ := o
    rw [q] at c2 e
    cases dt with
    | func fd =>
      obtain ⟨n1, n2, n3, n4, n5, n6, n7, n8, n9, n10, n11, n12, n13, n14, n15⟩ := fd
      have e2 : (some (n1, n2, n3, n4, n5, n6, n7, n15) : He.FnW) = some (d.name, d.qual, defArgs d.st, .stmts (defBody d.st), defScope d.st, mainGlobals, [], builtinsNs) := e
      simp only [Option.some.injEq, Prod.mk.injEq] at e2
      obtain ⟨h1, h2, h3, h4, h5, h6, h7, h8⟩ := e2
      subst h1 h2 h3 h4 h5 h6 h7 h8
      have c3 : (PySem.W.codeIn K n13 d.qual && He.dflB K n8 d.dfl) = true := c2
      obtain ⟨k1, k2⟩ := He.ba c3
      exact ⟨_, ⟨oc, od, n8, n9, n10, n11, n12, n13, n14, osl, rfl, q, k1, He.dflB_ok k2, .inl rfl⟩, kp⟩
    | _ => cases c2
section
variable {K : PySem.W.Frag} {h : Heap} {mg : Str → Option Value}
theorem blt_ok (X : K.In h) (G : h.Ns mainGlobals mg) {x : Str} {id : String} (c : (Fb.blt x id).ok K = true) : mg x = some (.builtin id) := PySem.W.mg_of X G (He.eqO_ok c)
theorem prop_ok {C m : Str} (c : (Fb.prop C m).ok K = true) : PropOf K (He.ga K C) m (He.ma K (He.ga K C) m) ((Ad.get C m).at_ K) := by
  obtain ⟨c1, c⟩ := He.ba c
  obtain ⟨c2, c⟩ := He.ba c
  obtain ⟨c3, c4⟩ := He.ba c
  refine ⟨He.eqO_ok c1, He.eqO_ok c2, of_decide_eq_true c3, ?_⟩
  show ∃ rest, PySem.W.recIn K _ "property" = some (.ref (recAt K "property" 0 _) :: rest)
  unfold recAt
  split at c4
  · rename_i a rest e
    rw [e]
    exact ⟨rest, rfl⟩
  · cases c4
theorem pset_ok {C m : Str} (c : (Fb.pset C m).ok K = true) : PropSet K (He.ga K C) m (He.ma K (He.ga K C) m) ((Ad.set C m).at_ K) := by
  obtain ⟨c1, c⟩ := He.ba c
  obtain ⟨c2, c3⟩ := He.ba c
  refine ⟨He.eqO_ok c1, of_decide_eq_true c2, ?_⟩
  show ∃ a rest, PySem.W.recIn K _ "property" = some (a :: .ref (recAt K "property" 1 _) :: rest)
  unfold recAt
  split at c3
  · rename_i a b rest e
    rw [e]
    exact ⟨a, rest, rfl⟩
  · cases c3
theorem cread_ok {C : Str} (c : (Fb.cread C).ok K = true) : ClX.CRead K (He.ga K C) (.type "type") := by
  obtain ⟨c1, c2⟩ := He.ba c
  exact ⟨c1, He.eqO_ok c2⟩
theorem cmet_ok {C m : Str} (c : (Fb.cmet C m).ok K = true) : ClX.CMet K (He.ga K C) (.type "type") m (He.ma K (He.ga K C) m) ((Ad.cm C m).at_ K) := by
  obtain ⟨c1, c⟩ := He.ba c
  obtain ⟨c2, c3⟩ := He.ba c
  refine ⟨?_, ?_, c3⟩
  · split at c1
    · rename_i b p D e
      obtain ⟨d1, d⟩ := He.ba c1
      obtain ⟨d2, d3⟩ := He.ba d
      rw [e, of_decide_eq_true d1, of_decide_eq_true d2, of_decide_eq_true d3]
    · cases c1
  · show ∃ rest, PySem.W.recIn K _ "classmethod" = some (.ref (recAt K "classmethod" 0 _) :: rest)
    unfold recAt
    split at c2
    · rename_i a rest e
      rw [e]
      exact ⟨rest, rfl⟩
    · cases c2
theorem nodig_ok (X : K.In h) (c : Fb.nodig.ok K = true) : h.NoDigits := by
  obtain ⟨c1, c2⟩ := He.ba c
  unfold PySem.W.nsOkIn at c1
  split at c1
  · rename_i oc od es ep sl e
    have hk : StrKeys es := fun en hen => by
      have := (Array.all_eq_true_iff_forall_mem.mp c1) en hen
      split at this
      · rename_i n t eq
        exact ⟨n, t, eq⟩
      · cases this
    have ns : h.Ns cStatics (fun name => nsFind es name) := ⟨_, es, ep, X _ _ e, rfl, hk, fun _ => rfl⟩
    exact ⟨_, ns, PySem.W.ns_none_of X ns (He.eqO_ok c2)⟩
  · cases c1
end
def SaysL (cs : List Chunk) (K : PySem.W.Frag) : Prop := cs.map (Chunk.obs K) = cs.map Chunk.val
def hookL (cs : List Chunk) : PySem.W.Hook where
  α := List He.AlD
  obs := fun s => cs.map (Chunk.obs (KL s.heap.get?))
  val := fun _ => cs.map Chunk.val
  says := fun _ h => ∃ K : PySem.W.Frag, K.In h ∧ SaysL cs K
  of := fun _ _ e => ⟨_, He.frG_in, e⟩
  keeps := fun _ _ _ ⟨K, hK, c⟩ k => ⟨K, PySem.W.Frag.In.keeps hK k, c⟩
def obL (cs : List Chunk) (s : PySem.W.SharedT) : List He.AlD := cs.map (Chunk.obs (KL (HandSHeadRun.getT s)))
theorem obL_eq (cs : List Chunk) (s : PySem.W.SharedT) : obL cs s = (hookL cs).obs s.abs := by
  have e : HandSHeadRun.getT s = s.abs.heap.get? := funext (HandSHeadRun.getT_eq s)
  unfold obL
  rw [e] <;> rfl
section
variable {cs : List Chunk} {K : PySem.W.Frag}
theorem SaysL.chunk (c : SaysL cs K) {k : Nat} {ch : Chunk} (h : cs[k]? = some ch) : ch.obs K = ch.val := by
  have e2 : (cs.map (Chunk.obs K))[k]? = (cs.map Chunk.val)[k]? := by rw [show cs.map (Chunk.obs K) = cs.map Chunk.val from c]
  rw [List.getElem?_map, List.getElem?_map, h] at e2
  exact Option.some.inj e2
theorem Chunk.bools {ch : Chunk} (e : ch.obs K = ch.val) : (ch.fb.all fun f => f.ok K) = true ∧ (ch.da.all fun d => d.ok K) = true ∧ (ch.dx.all fun d => d.ok K) = true := by
  have c1 := congrArg (fun z : He.AlD => z.1) e
  obtain ⟨h1, h2⟩ := He.ba c1
  obtain ⟨h3, h4⟩ := He.ba h2
  exact ⟨h1, h3, h4⟩
theorem Chunk.maps {ch : Chunk} (e : ch.obs K = ch.val) : ch.da.map (fun d => d.obs K) = ch.da.map DefA.val ∧ ch.dx.map (fun d => d.obs K) = ch.dx.map DefX.val :=
  List.append_inj (show (ch.da.map fun d => d.obs K) ++ (ch.dx.map fun d => d.obs K) = ch.da.map DefA.val ++ ch.dx.map DefX.val from congrArg (fun z : He.AlD => z.2) e) (by rw [List.length_map, List.length_map])
theorem SaysL.fact (c : SaysL cs K) (k i : Nat) {ch : Chunk} {f : Fb} (h : cs[k]? = some ch := by rfl) (h2 : ch.fb[i]? = some f := by rfl) : f.ok K = true := List.all_eq_true.mp (Chunk.bools (c.chunk h)).1 f (List.mem_of_getElem? h2)
theorem SaysL.def_ (c : SaysL cs K) (k i : Nat) {ch : Chunk} {d : DefA} (h : cs[k]? = some ch := by rfl) (h2 : ch.da[i]? = some d := by rfl) : ∃ fd, FunD K d.name d.qual (defArgs d.st) (defBody d.st) (defScope d.st) d.dfl [] (d.at_.at_ K) fd := by
  have e := c.chunk h
  have e2 : (ch.da.map fun d => d.obs K)[i]? = (ch.da.map DefA.val)[i]? := by rw [(Chunk.maps e).1]
  rw [List.getElem?_map, List.getElem?_map, h2] at e2
  exact DefA.funD (Option.some.inj e2) (List.all_eq_true.mp (Chunk.bools e).2.1 d (List.mem_of_getElem? h2))
theorem SaysL.defx (c : SaysL cs K) (k i : Nat) {ch : Chunk} {d : DefX} (h : cs[k]? = some ch := by rfl) (h2 : ch.dx[i]? = some d := by rfl) : d.obs K = d.val ∧ ∀ b ∈ d.oks K, b = true := by
  have e := c.chunk h
  have e2 : (ch.dx.map fun d => d.obs K)[i]? = (ch.dx.map DefX.val)[i]? := by rw [(Chunk.maps e).2]
  rw [List.getElem?_map, List.getElem?_map, h2] at e2
  exact ⟨Option.some.inj e2, fun b hb => List.all_eq_true.mp (List.all_eq_true.mp (Chunk.bools e).2.2 d (List.mem_of_getElem? h2)) b hb⟩
end
/-! ### the run's equation from its parts -/
open HandSHeadRun in
theorem run_parts {r : PySem.W.OpenRow} {q : Program} {cs : List Chunk} {M : Nat} {loose : List Str} {w : World} {W : Option (Shared × PySem.W.SharedT)} (hW : wholeF (fun p => stepQ (denQ tabQ) p w) fenceQ M r.prog = W)
    (h1a : W.map (fun x => PySem.W.staticsOk (importedModules r.prog.main.body) x.1.heap x.2.abs.heap && PySem.W.namesBound r.prog x.2.abs.heap) = some true)
    (h1b : W.map (fun x => PySem.W.gensDone x.2.abs && PySem.W.laidKept x.1.heap x.2.abs.heap) = some true)
    (h2 : W.map (fun x => seenQ q loose (importedModules r.prog.main.body) (fun s => PySem.W.xlAt q [] s && PySem.W.recOk r.toRowW.records s) x.2.abs) = some (PySem.W.openGood q loose))
    (h3 : ∀ c ∈ cs, W.map (fun x => c.obs (KL (getT x.2))) = some c.val) : RunEqI r q (hookL cs) (obL cs) M loose w := by
  unfold RunEqI
  rw [hW]
  obtain ⟨x, rfl, e1a⟩ := Option.map_eq_some_iff.mp h1a
  have e1b := Option.some.inj h1b
  have e1 : looksF r.prog x.1.heap x.2.abs = true := by
    unfold looksF
    dsimp only at e1a e1b
    rw [e1a, Bool.true_and]
    exact e1b
  have e2 := Option.some.inj h2
  refine congrArg some (Prod.ext e1 (Prod.ext e2 ?_))
  exact List.map_congr_left fun c hc => Option.some.inj (h3 c hc)
section
variable {P : Program} {w : World} {K : PySem.W.Frag} {mg : Str → Option Value} {h : Heap}
theorem std_of {x : Str} {st : Stmt} {fd : FuncData} (X : K.In h) (G : h.Ns mainGlobals mg) (F : FunD K x x (defArgs st) (defBody st) (defScope st) [] [] (He.ga K x) fd) (c : (Fb.fa (.glo x)).ok K = true) : Std K mg x st := ⟨_, fd, F, He.glo_ok X G c⟩
theorem gct_of {x : Str} {ps : List CR.P} {vs : List He.Dv} (X : K.In h) (G : h.Ns mainGlobals mg) (c : (Fb.fa (.glo x)).ok K = true) (d : (Fb.tup x vs).ok K = true) (i : ∀ H, IsPs K H ps (vs.map (He.Dv.v K))) : mg x = some (.ref (He.ga K x)) ∧ ∀ H, IsP K H (.tup ps) (.ref (He.ga K x)) :=
  ⟨He.glo_ok X G c, fun H => ⟨_, _, rfl, He.tupB_ok d H, i H⟩⟩
end
end CR

set_option Elab.async false
set_option linter.all false
set_option maxRecDepth 100000
set_option maxHeartbeats 4000000
/-! PV16: own exceptions whose __init__ says super().__init__(text); self.f = f. -/
namespace CR.OX
open PySem PySem.W PySem.Calls PyProof.Rows PySem.HandSPX
def xA (f : Str) (p1 p2 : Pos) : Arguments := { posonlyargs := [], args := [{ arg := "self", annotation := none, pos := p1 }, { arg := f, annotation := none, pos := p2 }], vararg := none, kwonlyargs := [], kw_defaults := [], kwarg := none, defaults := [] }
def xB (f m : Str) (p0 p1 p2 p3 p4 p5 q1 q2 q3 q4 : Pos) : List Stmt :=
  [.Expr (.Call (.Attribute (.Call (.Name "super" p0) [] [] p1) "__init__" p2) [.Constant (.str m) 0 p3] [] p4) p5, .Assign [.Attribute (.Name "self" q1) f q2] (.Name f q3) q4]
def xS (f : Str) : Scope := { kind := .function, names := [(PySem.Str.ofString "self", .local), (f, .local), (PySem.Str.ofString "__class__", .free), (PySem.Str.ofString "super", .globalImplicit)], isGenerator := false, isCoroutine := false, more := [] }
/-- a field's name that is none of the others -/
structure FldOk (f : Str) : Prop where
  l1 : (xS f).names.lookup ("self" : Str) = some .local := by rfl
  l2 : (xS f).names.lookup f = some .local := by rfl
  l3 : (xS f).names.lookup ("__class__" : Str) = some .free := by rfl
  l4 : (xS f).names.lookup ("super" : Str) = some .globalImplicit := by rfl
  dbg : (f == ("__debug__" : Str)) = false := by decide
  m1 : ∀ a b : Value, [(("self" : Str), a), (f, b)].reverse.lookup ("self" : Str) = some a := by intro _ _; rfl
  m2 : ∀ a b : Value, [(("self" : Str), a), (f, b)].reverse.lookup f = some b := by intro _ _; rfl
  bnd : ∀ (qual : Str) (body : List Stmt) (kV doc pm : Value) (an : Option Addr) (cdv ct : Value) (cc : Addr) (p1 p2 : Pos) (a b : Value), bindArgs (ksFn "__init__" qual (xA f p1 p2) body (xS f) .none kV doc pm an cdv ct cc) ⟨[a, b], []⟩ = pure [(("self" : Str), a), (f, b)] := by intro _ _ _ _ _ _ _ _ _ _ _ _ _; rfl
/-- what the written part says of the class at C, of its __init__, at fI -/
structure XTxt (P : Program) (K : Frag) (C fI : Addr) (f : Str) : Prop where
  cls : ∃ nm q N bs bm sn sub ab col dd k0 k1 k2 k3 k5, K.lookup C = some (excClassObj nm q C N bs bm true sn sub ab col dd k0 k1 k2 k3 k5 "ValueError.__new__") ∧ refsVE bm = true
  sa : findIn K (.ref C) "__setattr__" = some (some (.builtin "object.__setattr__"))
  ga : findIn K (.ref C) "__getattribute__" = some (some (.builtin "BaseException.__getattribute__"))
  gg : findIn K (.ref C) "__getattr__" = some none
  noN : findIn K (.ref C) f = some none
  iC : findIn K (.ref C) "__init__" = some (some (.ref fI))
  tC : typeIn K (.ref fI) = some (.type "function")
  kC : keepIn K (.ref C) = true
  exC : subIn K (.ref C) (.type "BaseException") = some true
  veC : subIn K (.ref C) (.type "ValueError") = some true
  slf : mroIn K C (.ref C) = some true
  tyC : typeIn K (.ref C) = some (.type "type")
  hdC : hasDictIn K C = true
  su : ks_superIn K C C "__init__" = some (some (.builtin "ValueError.__init__"))
  noS : nsIn K mainGlobals "super" = some none
  op : nsIn K cStatics "thirdparty.any" = some none
  fok : FldOk f
  top : (P.main.scope.names.lookup ("super" : Str)).isSome = false
  fn : ∃ (oc : Value) (od : Option Addr) (doc pm : Value) (an : Option Addr) (cda cc : Addr) (ct : Value) (osl : Array (Option Value)) (p1 p2 : Pos) (m : Str) (r0 r1 r2 r3 r4 r5 q1 q2 q3 q4 : Pos) (qual : Str),
    (r2.endLine == r4.line) = true ∧ K.lookup fI = some ⟨oc, od, .func (ksFn "__init__" qual (xA f p1 p2) (xB f m r0 r1 r2 r3 r4 r5 q1 q2 q3 q4) (xS f) .none .none doc pm an (.ref cda) ct cc), osl⟩ ∧ codeIn K (.ref cda) qual = true ∧
    (∃ (ccl : Value) (cdd : Option Addr) (vs : Array Value) (ccs : Array (Option Value)) (file : Str) (tf : Tok), K.lookup cda = some ⟨ccl, cdd, .fields vs, ccs⟩ ∧ vs[2]? = some (.str file tf) ∧ ((P.main.file : Str) == file) = true) ∧
    (∃ (cl : Value) (cld : Option Addr) (csl : Array (Option Value)), K.lookup cc = some ⟨cl, cld, .cell (some (.ref C)), csl⟩)
/-- what __init__ leaves of a fresh exception at x -/
structure InitEnd (h h' : Heap) (x C dx : Addr) (f : Str) (v : Value) : Prop where
  keep : ∀ b o, b ≠ x → h.get? b = some o → h'.get? b = some o
  obj : ∃ t1 : Addr, h'.get? x = some { cls := .ref C, dict := some dx, data := .fields #[.ref t1, .none, .none, .none, .bool false, .none] }
  dbig : h.objs.size ≤ dx
  dne : dx ≠ x
  ns : h'.Ns1 dx (fun y => if y = f then some v else none)
section
variable {prog : Program} {w : World} {A : Around} {E : Value → Shared → Prop} {R : Result → Shared → Prop} {s : Shared} {K : Frag} {mg mb : Str → Option Value} {C fI : Addr} {f : Str}
theorem call_bwV {s : Shared} {K : Frag} (X₂ : K.In s.heap) {C u e t0 : Addr} {nm q : Str} {N : Addr} {bs bm : List Value} {sn : List Str} {sub : List Value} {ab : Bool} {col : Option Bool} {dd : Option Addr} {k0 k1 k2 k3 k5 : Option Value} {rest : List Value} {Q : Value → Shared → Prop}
    (hC : K.lookup C = some (excClassObj nm q C N bs bm true sn sub ab col dd k0 k1 k2 k3 k5 "ValueError.__new__")) (he : s.heap.get? e = some (excO C t0)) (hu : s.heap.get? u = some (kxs_mw "ValueError.__init__" e)) (hz : rest.length ≤ sizeLine)
    (hq : ∀ h' t1, (∀ b o, b ≠ e → s.heap.get? b = some o → h'.get? b = some o) → h'.get? e = some (excO C t1) → Q .none { s with heap := h' }) : wpAny (model prog w) A (call (.ref u) rest) Q E s := by
  obtain ⟨hh, g, d, tk, os⟩ := s
  refine wpAny_call (codeAny_of_tree ?_)
  show wpAny _ A.in1 (callAny (.ref u) ⟨rest, []⟩) _ _ _
  simp only [callAny]
  refine wpAny_bind (wpAny_load hu ?_)
  simp only [kxs_mw, show (Value.type "method-wrapper" == Value.type "method" || Value.type "method-wrapper" == Value.type "builtin_function_or_method" || Value.type "method-wrapper" == Value.type "method-wrapper") = true by decide, if_true]
  refine KFB.if_so (by decide) ?_
  refine wpAny_bind (check_bound_init F.excBase_ValueError.toExcCallFacts (X₂ _ _ hC) he rfl ?_)
  refine wpAny_bind (wpAny_pure (wpAny_pure ?_))
  refine ⟨plainId_quiet F.excBase_ValueError.init.plain _, codeAny_builtin F.excBase_ValueError.initEntry ?_⟩
  exact exc_init_tree (cls := .ref C) (t0 := t0) (dv := none) (c2 := .none) (c3 := .none) (b4 := .bool false) he hz fun h' k e' _ => hq h' _ k e'
theorem xinit (T : XTxt prog K C fI f) {x t0 : Addr} {v : Value} (X : K.In s.heap) (hlim : s.heap.NoLimit) (hg : s.heap.Ns mainGlobals mg) (hb : s.heap.Ns builtinsNs mb) (hbb : ∀ y : Str, y ≠ "__name__" → mb y = bootBuiltins y)
    (hx : s.heap.get? x = some (excO C t0)) (hnx : K.lookup x = none) (hroom : A.depth < recursionLimit)
    (hq : ∀ h' tk dx, InitEnd s.heap h' x C dx f v → R (.ok (.ret .none)) { s with heap := h', toks := tk }) :
    codeAny (model prog w) A (.call (.ref fI) ⟨[.ref x, v], []⟩) R s := by
  obtain ⟨oc, od, doc, pm, an, cda, cc, ct, osl, p1, p2, m, r0, r1, r2, r3, r4, r5, q1, q2, q3, q4, qual, hline, ho, hcd, ⟨ccl, cdd, vs, ccs, file, tf, hco, hvs, hfile⟩, ⟨cl, cld, csl, hcell⟩⟩ := T.fn
  obtain ⟨nm, q, N, bs, bm, sn, sub, ab, col, dd, k0, k1, k2, k3, k5, hC, hbm⟩ := T.cls
  have hcl : clsIn K C = some { name := nm, bases := bs, mro := .ref C :: bm, ns := N, qualname := q, hasDict := true, slotNames := sn, subclasses := sub, abstract := ab, collection := col, hasDel := false } := by unfold clsIn; rw [hC] <;> rfl
  have fo := T.fok
  refine ks_codeAny_call_defAt (binds := [("self", .ref x), (f, v)]) hroom (X _ _ ho) rfl hlim (codeRec_of X hcd) rfl (BindsTo.of_eq (fo.bnd ..)) ?hcell ?hloc (fun h₁ hns k₁ => ?_) rfl rfl rfl
  case hcell =>
    intro y hy
    simp only [xS, List.mem_cons, List.not_mem_nil, or_false] at hy
    rcases hy with rfl | rfl | rfl | rfl <;> simp
  case hloc =>
    intro y hy
    simp only [List.mem_cons, List.not_mem_nil, or_false] at hy
    rcases hy with rfl | rfl
    · exact fo.l1
    · exact fo.l2
  have X₁ : K.In h₁ := fun b o e => k₁ b o (X b o e)
  have hx₁ := k₁ _ _ hx
  have hC₁ := X₁ _ _ hC
  have xC : x ≠ C := fun e => by
    rw [e, hC₁] at hx₁
    cases hx₁
  have hsup : Looks (model prog w) h₁ (isSubtype (.ref C) (.ref C)) true := looks_mroIn X₁ T.slf
  have he : ∀ env : Env, eval (.Call (.Attribute (.Call (.Name "super" r0) [] [] r1) "__init__" r2) [.Constant (.str m) 0 r3] [] r4) env = (do
      let ov ← attributeBase (.Call (.Name "super" r0) [] [] r1) "__init__" env (eval (.Call (.Name "super" r0) [] [] r1) env)
      standAt r2.atName
      let (f, first) ← holding [ov] (getMethod ov "__init__" (L2.plainOf (.Call (.Name "super" r0) [] [] r1) env))
      callWith r4 f first (backTo r4 (starEach [.Constant (.str m) 0 r3] env)) []) := fun env => by
    rw [arm_eval_Call]
    refine bind_congr fun ov => bind_congr fun _ => ?_
    exact L2.mcall_line (args := backTo r4 (starEach [.Constant (.str m) 0 r3] env)) (kws := []) rfl hline
  refine ks_wpAt_execs_cons (ks_wpAt_Expr_any (ks_wpAt_MethodCall (he := he _) ?_))
  refine ks_wpAt_super_base (f := fI) (cc := cda) fo.l4 fo.l3 (by decide) rfl (X₁ _ _ ho) rfl rfl rfl (X₁ _ _ hco) rfl hvs hfile T.top ?_
  refine ks_loadName_global rfl fo.l4 (loadGlobal_builtin (hg.keeps k₁) (mg_none_of X hg T.noS) (hb.keeps k₁) ((hbb _ (by decide +kernel)).trans (by decide +kernel)) ⟨rfl, ?_⟩)
  refine wpAny_loadName_free rfl fo.l3 rfl ⟨_, X₁ _ _ hcell, rfl⟩ ?_
  refine wpAny_loadName_local rfl fo.l1 hns (fo.m1 _ _) ?_
  refine ks_wpAny_isType_cls hC₁ rfl ⟨rfl, ?_⟩
  refine ks_wpAny_call_super hC₁ rfl hx₁ rfl (fun c e => by cases e) hsup (fun h₂ e₂ k₂ => ?_)
  have X₂ : K.In h₂ := fun b o e => k₂ b o (X₁ b o e)
  have hx₂ := k₂ _ _ hx₁
  have hC₂ := X₂ _ _ hC
  have hm₂ : Looks (model prog w) h₂ (mroOf (.ref C)) (.ref C :: bm) := fun A Q E s k q => wpAny_bind ((looks_clsIn X₂ hcl) A _ E s k (wpAny_pure q))
  have hsu : alongIn K "__init__" (((Value.ref C :: bm).dropWhile (· != .ref C)).drop 1) = some (some (.builtin "ValueError.__init__")) := by
    have := T.su
    unfold ks_superIn at this
    rw [hcl] at this
    exact this
  have I₂ : InstAt h₂ x (excO C t0) C none := ⟨hx₂, rfl, rfl, trivial⟩
  have hI₂ : Looks (model prog w) h₂ (isInstance (.ref x) (.type "ValueError")) true := I₂.type.andThen (looks_subIn X₂ T.veC)
  refine kxs_getMethod kxs_ValueError e₂ (looks_opaque X₂ T.op) hm₂ rfl X₂ hsu hI₂ xC (by decide) ?_
  have k₃ : ∀ b o, h₂.get? b = some o → (h₂.push (kxs_mw "ValueError.__init__" x)).get? b = some o := fun b o e => Heap.get?_push_of_some _ e
  have hu₃ : (h₂.push (kxs_mw "ValueError.__init__" x)).get? h₂.objs.size = some (kxs_mw "ValueError.__init__" x) := Heap.get?_push_at rfl rfl
  refine kxs_callWith (i := "ValueError.__init__") (x := x) rfl ?_
  refine evalArgs_plain (args_cons (wpAny_Constant_str (args_nil ⟨hu₃, ?_⟩)) rfl)
  refine call_bwV (X₂ := fun b o e => k₃ b o (X₂ b o e)) hC (k₃ _ _ hx₂) hu₃ (by rw [sizeLine_eq]; show 1 ≤ _; decide) (fun h₄ t1 k₄ hx₄ => ?_)
  have X₄ : ∀ b o, b ≠ x → s.heap.get? b = some o → h₄.get? b = some o := fun b o hb e => k₄ b o hb (k₃ b o (k₂ b o (k₁ b o e)))
  have hxL : s.heap.objs.size ≠ x := Nat.ne_of_gt (Heap.lt_size hx)
  have hn₄ := hns.at (h' := h₄) fun o e => k₄ _ o hxL (k₃ _ _ (k₂ _ _ e))
  have XK : K.In h₄ := fun b o e => X₄ b o (fun z => by rw [z, hnx] at e; cases e) (X b o e)
  show _root_.PySem.wpAt _ _ _ (execs _ _) _ _ _
  refine ks_wpAt_execs_cons (ks_wpAt_Assign_Attr (wpAt_of_wpAny ?_))
  refine wpAny_Name (wpAny_loadName_local rfl fo.l2 hn₄ (fo.m2 _ _) ?_) fo.dbg
  refine wpAny_Name (wpAny_loadName_local rfl fo.l1 hn₄ (fo.m1 _ _) ?_) (by decide)
  refine set_plain XK (ox := excO C t1) (od := none) ⟨hx₄, rfl, rfl, trivial⟩ T.sa ?_
  refine exc_osa XK hx₄ hcl (show refsVE (.ref C :: bm) = true from hbm) rfl T.noN (fun h₅ tk₅ dx k₅ dn dne hx₅ hn₅ => ?_)
  show _root_.PySem.wpAt _ _ _ (execs _ _) _ _ _
  have z1 : s.heap.objs.size < h₄.objs.size := hn₄.lt
  exact wpAt_of_wpAny (wpAny_execs_nil (hq h₅ tk₅ dx ⟨fun b o hb e => k₅ b o hb (X₄ b o hb e), ⟨t1, hx₅⟩, Nat.le_of_lt (Nat.lt_of_lt_of_le z1 dn), dne, hn₅⟩))
end
end CR.OX

set_option Elab.async false
set_option linter.all false
set_option maxRecDepth 100000
set_option maxHeartbeats 4000000
/-! PV17: such an exception made, raised, asked for its class, its field read. -/
namespace CR.OX
open PySem PySem.Spec PySem.W PySem.Calls PyProof.Rows PySem.HandSPX
section
variable {prog : Program} {w : World} {A : Around} {E : Value → Shared → Prop} {s : Shared} {K : Frag} {x D : Addr} {ox : Obj} {od : Option Obj}
theorem findObj_dataO {C : Addr} {name : Str} {a g : Value} (hc : (clsIn K C).isSome = true) (ha : findIn K (.ref C) name = some (some a)) (hg : specialIn K a "__get__" = some (some g)) (ht : takesIn K a = some true) : findObj K C od name = some (.bind g a) := by
  obtain ⟨cd, hc⟩ := Option.isSome_iff_exists.mp hc
  unfold findObj
  rw [hc, Option.bind_some, ha, Option.bind_some]
  simp [hg, ht]
theorem kin_classO {Q : Option Value → Shared → Prop} (C : L2.ExcC K D) (X : K.In s.heap) (I : InstAt s.heap x ox D od) (h : Q (some (.ref D)) { s with toks := s.toks + 1 }) : wpAny (model prog w) A (getAttr? (.ref x) "__class__") Q E s := by
  have hf : findObj K D od "__class__" = some (.bind (.builtin "getset_descriptor.__get__") (.builtin "object.__class__")) := findObj_dataO (by obtain ⟨cd, hc, _⟩ := any_some C.hd; rw [hc]; rfl) C.ha C.hn C.ht
  obtain ⟨hp, g, d, t, os⟩ := s
  have L0 := I.type (M := model prog w)
  have L1 := looks_findIn (M := model prog w) X C.hg
  have L2 := looks_findIn (M := model prog w) X C.hk
  have L3 := looks_find (M := model prog w) X I hf
  have sub : Looks (model prog w) hp (isInstance (.ref x) (.type "BaseException")) true := L0.andThen (looks_subIn X C.hs)
  have hx0 : (false && onTheHeap (Value.builtin "BaseException.__getattribute__")) = false := rfl
  have hx2 : (Value.builtin "BaseException.__getattribute__" == Value.builtin "object.__getattribute__") = false := by decide +kernel
  have hx1 : (onTheHeap (Value.ref D) && Value.builtin "BaseException.__getattribute__" == Value.builtin "object.__getattribute__") = false := by rw [hx2]; rfl
  unfold getAttr? getAttrBy? getAttrBy
  refine wpAny_bind (wpAny_mkText (wpAny_bind (wpAny_attempt (wpAny_holding (wpAny_bind (L0.at (wpAny_bind (L1.at ?_))))))))
  show wpAny _ _ (if (onTheHeap (Value.ref D) && Value.builtin "BaseException.__getattribute__" == Value.builtin "object.__getattribute__") = true then _ else _) _ _ _
  rw [hx1, if_neg Bool.false_ne_true]
  unfold getAttrByItsOwn hookBefore
  refine wpAny_bind ?_
  rw [if_pos (show onTheHeap (Value.ref D) = true from rfl)]
  refine L2.at ?_
  refine wpAny_bind (wpAny_attempt (wpAny_holding ?_))
  unfold callGetattribute
  rw [hx0, if_neg Bool.false_ne_true]
  unfold boundAndCalled
  rw [PySem.F.excAttr_ValueError.ga.bind (.ref x)]
  refine wpAny_bind (wpAny_pure ?_)
  show wpAny _ _ (call (.builtin "BaseException.__getattribute__") [.ref x, .str "__class__" t]) _ _ _
  refine wpAny_call (codeAny_call_builtin PySem.F.excAttr_ValueError.ga.plain PySem.F.entry_bexc_ga ?_)
  refine @check_slot (model prog w) _ _ ⟨hp, g, d, t + 1, os⟩ "BaseException.__getattribute__" "BaseException" "__getattribute__" (.ref x) [.str "__class__" t] [] _ (by decide +kernel) (by decide +kernel) sub (PySem.F.args_bexc_ga (.ref x) (.str "__class__" t)) ?_
  unfold Builtin.«object.__getattribute__»
  refine wpAny_bind (wpAny_of_eq (a := ((Value.ref x : Value), [Value.str "__class__" t])) (by first | rfl | (simp only [slotArgs]; rfl)) ?_)
  refine wpAny_bind (wpAny_pure (wpAny_bind (L0.at (wpAny_bind (L3.at ?_)))))
  show wpAny _ _ (holding [Value.builtin "object.__class__"] (call (.builtin "getset_descriptor.__get__") [.builtin "object.__class__", .ref x, .ref D]) >>= ret) _ _ _
  refine wpAny_bind (wpAny_holding (wpAny_call (class_get (s := ⟨hp, g, d, t + 1, os⟩) (ox := ox) (od := od) X I C.hm ?_)))
  refine wpAny_pure ?_
  show wpAny _ _ (handedOut (.ref D)) _ _ _
  rw [handedOut_of (v := .ref D) rfl]
  first
    | exact wpAny_pure (wpAny_pure h)
    | exact wpAny_pure h
    | exact wpAny_pure (wpAny_bind (wpAny_pure (wpAny_pure h)))
theorem kitx_excO (C : L2.ExcC K D) : KitX K (.ref x) (.ref D) (fun h => InstAt h x ox D od) where
  ty := fun _ _ _ I => I.type
  it := fun _ _ X _ => by
    obtain ⟨cdD, hcD, _⟩ := any_some C.hd
    unfold clsIn at hcD
    split at hcD
    · rename_i c' d' cd' sl' ho
      intro A' Q' E' s' k q
      unfold isType loadHead
      exact wpAny_bind (wpAny_loadPart (k _ _ (X _ _ ho)) (wpAny_pure q))
    · cases hcD
  ne := fun h tp dd its n sl X htp => by
    obtain ⟨cdD, hcD, _⟩ := any_some C.hd
    refine Bool.eq_false_iff.mpr fun q => ?_
    have e : D = tp := Value.ref.inj (beq_iff_eq.mp q)
    subst e
    unfold clsIn at hcD
    split at hcD
    · rename_i c' d' cd' sl' ho
      have z := (X _ _ ho).symm.trans htp
      cases z
    · cases hcD
  ca := fun X I k => kin_classO C X I k
end
/-- a made one -/
structure OwnMade (h h' : Heap) (e C d : Addr) (f : Str) (v : Value) : Prop where
  keep : ∀ b o, h.get? b = some o → h'.get? b = some o
  new : h.objs.size ≤ e
  obj : ∃ oe vs, h'.get? e = some oe ∧ oe.cls = .ref C ∧ oe.dict = some d ∧ oe.data = .fields vs ∧ vs[1]? = some .none
  dbig : h.objs.size ≤ d
  dne : d ≠ e
  ns : h'.Ns1 d (fun y => if y = f then some v else none)
section
variable {prog : Program} {w : World} {A : Around} {E : Value → Shared → Prop} {R : Result → Shared → Prop} {s : Shared} {K : Frag} {mg mb : Str → Option Value} {C fI : Addr} {f : Str}
theorem xmade (T : XTxt prog K C fI f) {v : Value} (X : K.In s.heap) (hlim : s.heap.NoLimit) (hg : s.heap.Ns mainGlobals mg) (hb : s.heap.Ns builtinsNs mb) (hbb : ∀ y : Str, y ≠ "__name__" → mb y = bootBuiltins y) (hroom : A.depth + 1 < recursionLimit)
    (hq : ∀ h' tk e d, OwnMade s.heap h' e C d f v → R (.ok (.ret (.ref e))) { s with heap := h', toks := tk }) :
    codeAny (model prog w) A (.call (.ref C) ⟨[v], []⟩) R s := by
  obtain ⟨nm, q, N, bs, bm, sn, sub, ab, col, dd, k0, k1, k2, k3, k5, hC, hbm⟩ := T.cls
  obtain ⟨hp, g, dr, tk, os⟩ := s
  have k : ∀ b o, hp.get? b = some o → ((hp.push (kdv_tup [v])).push (excO C hp.objs.size)).get? b = some o := fun b o e => Heap.get?_push_of_some _ (Heap.get?_push_of_some _ e)
  have hget : ((hp.push (kdv_tup [v])).push (excO C hp.objs.size)).get? (hp.objs.size + 1) = some (excO C hp.objs.size) := by heap_get
  have hnx : K.lookup (hp.objs.size + 1) = none := by
    cases e : K.lookup (hp.objs.size + 1) with
    | none => rfl
    | some o =>
      have z : hp.get? (hp.objs.size + 1) = some o := X _ _ e
      exact absurd (Nat.lt_of_succ_lt (Heap.lt_size z)) (Nat.lt_irrefl _)
  refine call_own F.excBase_ValueError (fun X => refsVE_contains X bm hbm) (X _ _ hC) (looks_findIn X T.iC) (fun self => bind_fn X self T.tC) (by rw [sizeLine_eq]; exact (by decide : 1 ≤ 16777216)) ?_
  refine xinit (s := ⟨(hp.push (kdv_tup [v])).push (excO C hp.objs.size), g, dr, tk, os⟩) T (fun b o e => k b o (X b o e)) (hlim.keeps k) (hg.keeps k) (hb.keeps k) hbb hget hnx ?_ fun h' tk' dx ⟨k', ⟨t1, hx⟩, dn, dne, hns⟩ => ?_
  · show A.depth + 1 < recursionLimit
    exact hroom
  · have old : ∀ b o, hp.get? b = some o → h'.get? b = some o := fun b o e => k' b o (Nat.ne_of_lt (Nat.lt_succ_of_lt (Heap.lt_size e))) (k b o e)
    have z : hp.objs.size + 1 + 1 ≤ dx := by
      first
        | (simpa only [Heap.size_push] using dn)
        | exact dn
        | (have q := dn; rw [Heap.size_push, Heap.size_push] at q; exact q)
    exact ⟨rfl, hq h' tk' (hp.objs.size + 1) dx ⟨old, Nat.le_succ _, ⟨_, _, hx, rfl, rfl, rfl, rfl⟩, Nat.le_trans (Nat.le_trans (Nat.le_succ _) (Nat.le_succ _)) z, dne, hns⟩⟩
end
end CR.OX
namespace CR
open PySem PySem.Spec PyProof.Rows L2
theorem relO_one {f : Str} {v : V} {v' : Value} (r : RelV v v') (g : Str) : RelO (List.lookup g [(f, v)]) (if g = f then some v' else none) := by
  by_cases hw : g = f
  · subst hw
    rw [if_pos rfl]
    have q : List.lookup g [(g, v)] = some v := by simp [List.lookup]
    rw [q]
    exact r
  · rw [if_neg hw]
    have qw : (g == f) = false := by simpa using hw
    have q2 : List.lookup g [(f, v)] = none := by simp [List.lookup, qw]
    rw [q2]
    trivial
section
variable {X : Cx} {C fI : Addr} {f : Str}
/-- C(e) -/
def tMkX (C : Addr) (f : Str) (ta : TA) : L2.St → Hp → XK → Prop := fun σ H Q => ta σ H fun vs H1 => ∃ v, vs = [v] ∧ ∀ d, H1 d = none → Q (.ref C) (some d) (upd H1 d (.xd [(f, v)]))
theorem pmk_x {a : Expr} {ta : TA} {x : Str} {p pos : Pos} {k : Nat} (T : OX.XTxt X.prog X.K C fI f) (gC : X.mg x = some (.ref C)) (hr : Room k X.A) (ha : PA X [a] ta) (hg : Gl X x)
    (hdb : (x == ("__debug__" : Str)) = false := by decide) (he : starEach (a :: []) X.env = (false, eval a X.env) :: starEach [] X.env := by rfl) (hpl : (backTo pos (starEach [] X.env)).any (·.1) = false := by rfl) :
    PMk X (.Call (.Name x p) [a] [] pos) (tMkX C f ta) := by
  intro pins s σ H Q I h
  refine wpAny_Call_Name_kw (ld_glob I hg gC ?_ hdb)
  refine PySem.W.callWith_K (h₀ := X.base) I.ok.mod.kin T.kC (thn (ha.run pos pins s σ H _ I h) fun us s1 hh => ?_) he hpl
  obtain ⟨vs, H1, I1, r1, v, ev, q1⟩ := hh
  subst ev
  refine ⟨I1.kIn, ?_⟩
  cases r1 with
  | cons rv rn =>
    rename_i v' us'
    cases rn
    show wpAny _ _ (call (.ref C) [v']) _ _ _
    have hlim := I1.nolimit
    obtain ⟨mb, hmb, hbb⟩ := I1.mod.blt
    have bk := I1.bk
    have hg1 := I1.mod.glob.keeps bk
    have hb1 := hmb.keeps bk
    obtain ⟨hp, g, dr, tk, os⟩ := s1
    refine wpAny_call (OX.xmade T I1.kIn hlim hg1 hb1 hbb (by have := hr.dp; omega) fun h' tk' e d M => ?_)
    show MkP X pins σ Q (.ref e) ⟨h', g, dr, tk', os⟩
    obtain ⟨oe, fv, hoe, hc, hd, hdat, h1⟩ := M.obj
    have hns := M.ns
    obtain ⟨G', g1, g2⟩ := restrict h' fun b => decide (b ≠ e)
    have gk : ∀ b, b ≠ e → G'.get? b = h'.get? b := fun b hb => g1 b (decide_eq_true hb)
    have ge : G'.get? e = none := g2 e (by simp)
    have old : ∀ b o, hp.get? b = some o → G'.get? b = some o := fun b o q => (gk b (Nat.ne_of_lt (Nat.lt_of_lt_of_le (Heap.lt_size q) M.new))).trans (M.keep b o q)
    have ob : ObjOk X.prog X.w (upd H1 d (.xd [(f, v)])) G' d (.xd [(f, v)]) := ⟨_, hns.at (fun o q => (gk d M.dne).trans q), fun g => relO_one rv g⟩
    have J : Inv X pins σ (upd H1 d (.xd [(f, v)])) ⟨G', g, dr, tk', os⟩ := I1.laid (t' := tk') old M.dbig ob
    refine ⟨e, oe, fv, ⟨G', g, dr, tk', os⟩, _, .ref C, some d, rfl, J, fun b o q => ?_, ge, hoe, ⟨hc, hd⟩, hdat, h1, ?_, rfl, I1.bare, raises_own T.exC T.tyC, q1 d (I1.hok.fresh M.dbig)⟩
    · by_cases hb : b = e
      · have q' : G'.get? b = some o := q
        rw [hb, ge] at q'; cases q'
      · exact (gk b hb).symm.trans q
    · rw [upd_ne (Ne.symm M.dne)]
      exact I1.hok.fresh M.new
/-- the error that the suite holds, at a: its field -/
def tFldX (C : Addr) (f : Str) (a : Addr) (cls : Value) (d : Option Addr) (te : TE) : TE := fun σ H Q => te σ H fun x H1 => x = .ref a ∧ cls = .ref C ∧ ∃ (dd : Addr) (v : V), d = some dd ∧ H1 dd = some (.xd [(f, v)]) ∧ Q v H1
theorem inst_x {H1 : Hp} {s1 : Shared} {pins pn : List (Addr × Obj)} {σ : L2.St} {a dd : Addr} {oe : Obj} {fs : List (Str × V)} (hz : Zc (.ref C) (some dd) oe) (hf : ∃ vs, oe.data = .fields vs) (I : Inv (X.suite a ((a, oe) :: pn)) pins σ H1 s1) (ea : H1 dd = some (.xd fs)) :
    ∃ (od : Obj) (mA : Str → Option Value), PySem.W.InstAt s1.heap a oe C (some od) ∧ (∀ g, PySem.W.lookIn g od = some (mA g)) ∧ ∀ g, RelO (fs.lookup g) (mA g) := by
  obtain ⟨ha, _⟩ := I.pin (a, oe) (List.mem_append_left _ List.mem_cons_self)
  obtain ⟨vs, hd⟩ := hf
  have hx : ObjOk X.prog X.w H1 s1.heap dd (.xd fs) := I.hok dd _ ea
  obtain ⟨mA, hns, hr⟩ := hx
  obtain ⟨od, ho, hl⟩ := lookIn_ns hns
  exact ⟨od, mA, ⟨ha, hz.1, by unfold PySem.W.notCls; rw [hd] <;> rfl, by rw [hz.2]; exact ho⟩, hl, hr⟩
theorem pe_fldX {a : Addr} {oe : Obj} {cls : Value} {d : Option Addr} {pn : List (Addr × Obj)} {e : Expr} {te : TE} {pos : Pos} (T : OX.XTxt X.prog X.K C fI f) (hz : Zc cls d oe) (hf : ∃ vs, oe.data = .fields vs) (he : PE (X.suite a ((a, oe) :: pn)) e te)
    (hb : attributeBase e f X.env (eval e X.env) = eval e X.env := by rfl) : PE (X.suite a ((a, oe) :: pn)) (.Attribute e f pos) (tFldX C f a cls d te) := by
  refine ⟨fun pins s σ H Q I h => ?_⟩
  refine attr_of hb (thn (he.run pins s σ H _ I h) fun u s1 hh => ?_)
  obtain ⟨x, H1, I1, rx, ex, ec, dd, v, ed, ea, q⟩ := hh
  subst ex
  obtain rfl : u = Value.ref a := rx
  subst ec
  subst ed
  obtain ⟨od, mA, J, hl, hr⟩ := inst_x hz hf I1 ea
  have l : List.lookup f [(f, v)] = some v := by simp [List.lookup]
  obtain ⟨u, hu, ru⟩ := RelO.some_of (v := v) (o := mA f) (by rw [← l]; exact hr f)
  exact HandSPX.exc_get I1.kIn J T.ga T.gg T.exC (PySem.W.findObj_own T.hdC T.noN rfl (by rw [hl, hu])) (handed_of ru) ⟨v, H1, I1.tok _, ru, q⟩
/-- isinstance of it -/
def rIsX (K : PySem.W.Frag) (C a : Addr) (d : Addr) : List V → Hp → VK → Prop := fun xs H Q => ∃ (c : V) (cv : Value) (b : Bool) (fs : List (Str × V)), xs = [.ref a, c] ∧ H d = some (.xd fs) ∧ (∀ u, RelV c u → u = cv) ∧ PySem.W.kitOne K (.ref C) cv = some b ∧ Q (.bl b) H
theorem call_isX {a d : Addr} {oe : Obj} {pn : List (Addr × Obj)} (T : L2.ExcC X.K C) (hz : Zc (.ref C) (some d) oe) (hf : ∃ vs, oe.data = .fields vs) : CallR (X.suite a ((a, oe) :: pn)) (.builtin "isinstance") (rIsX X.K C a d) := by
  intro pins s σ H xs us Q I r h
  obtain ⟨c, cv, b, fs, rfl, ea, hcv, e, q⟩ := h
  cases r with
  | cons rx rr =>
    cases rr with
    | cons rt rr =>
      cases rr
      cases rx
      have ec := hcv _ rt
      subst ec
      obtain ⟨od, mA, J, _, _⟩ := inst_x hz hf I ea
      exact PySem.W.kia_one (OX.kitx_excO T) I.kIn J e (fun z => nomatch z) fun tk => ⟨.bl b, H, I.kept (t' := tk) fun _ _ z => z, rfl, q⟩
end
end CR

set_option Elab.async false
set_option linter.all false
set_option maxRecDepth 100000
set_option maxHeartbeats 4000000
/-! PV18: defs that raise, over pure values; try .. except .. as. -/
namespace CR
open PySem PySem.Spec PyProof.Rows L2
/-- an error's wish: its class, its dict (tracked) -/
abbrev XPw := Addr → Addr → Mp → Prop
abbrev WXP := Addr → Addr → PSt → Mp → Prop
abbrev FSX := WXP → FS
abbrev PSpX := List CR.P → Mp → KE → XPw → Prop
def LkX (K : PySem.W.Frag) (H : Hp) (M : Mp) (E : XK) (Ep : XPw) : Prop := ∀ C d H' M', Ext H M H' M' → Rep K H' M' → Ep C d M' → E (.ref C) (some d) H'
def LkW (K : PySem.W.Frag) (H : Hp) (M : Mp) (W : WX) (Wp : WXP) : Prop := ∀ C d σ' ρ' H' M', Ext H M H' M' → Rep K H' M' → IsS K H' σ' ρ' → Wp C d ρ' M' → W (.ref C) (some d) σ' H'
theorem LkX.ext {K : PySem.W.Frag} {H H1 : Hp} {M M1 : Mp} {E : XK} {Ep : XPw} (l : LkX K H M E Ep) (e : Ext H M H1 M1) : LkX K H1 M1 E Ep := fun C d H' M' x r q => l C d H' M' (e.trans x) r q
theorem LkW.ext {K : PySem.W.Frag} {H H1 : Hp} {M M1 : Mp} {W : WX} {Wp : WXP} (l : LkW K H M W Wp) (e : Ext H M H1 M1) : LkW K H1 M1 W Wp := fun C d σ' ρ' H' M' x r s q => l C d σ' ρ' H' M' (e.trans x) r s q
def toSpX (K : PySem.W.Frag) (sp : PSpX) : Sp := fun vs H Q E => ∃ ps M Qp Ep, IsPs K H ps vs ∧ Rep K H M ∧ sp ps M Qp Ep ∧ Lk K H M Q Qp ∧ LkX K H M E Ep
structure QSX (X : Cx) (W : WX) (st : Stmt) (t : TS) (f : FSX) : Prop where
  p : PS X st t
  a : ∀ (D : Ends) (Dp : PEnds) (Wp : WXP) (σ : L2.St) (H : Hp) (ρ : PSt) (M : Mp), IsS X.K H σ ρ → Rep X.K H M → f Wp Dp ρ M → LkS X.K H M D Dp → LkW X.K H M W Wp → t D σ H
structure QSsX (X : Cx) (W : WX) (st : List Stmt) (t : TS) (f : FSX) : Prop where
  p : PSs X st t
  a : ∀ (D : Ends) (Dp : PEnds) (Wp : WXP) (σ : L2.St) (H : Hp) (ρ : PSt) (M : Mp), IsS X.K H σ ρ → Rep X.K H M → f Wp Dp ρ M → LkS X.K H M D Dp → LkW X.K H M W Wp → t D σ H
def fOf (f : FS) : FSX := fun _ => f
def fSeqX (f g : FSX) : FSX := fun Wp D ρ M => f Wp { D with nx := g Wp D } ρ M
def fIfX (c : FT) (f g : FSX) : FSX := fun Wp D ρ M => c ρ M (fun M1 => f Wp D ρ M1) (fun M1 => g Wp D ρ M1)
/-- keywords -/
structure QK (X : Cx) (kws : List Keyword) (t : TA) (f : FA) : Prop where
  p : PK X kws t
  a : AA X.K t f
section
variable {X : Cx} {W : WX} {st : Stmt} {sts rest : List Stmt} {t u : TS} {f g : FSX} {pos : Pos}
theorem qsx_of {f : FS} (h : QS X st t f) : QSX X W st t (fOf f) := ⟨h.p, fun D Dp Wp σ H ρ M s R q l _ => h.a D Dp σ H ρ M s R q l⟩
theorem qssx_of {f : FS} (h : QSs X sts t f) : QSsX X W sts t (fOf f) := ⟨h.p, fun D Dp Wp σ H ρ M s R q l _ => h.a D Dp σ H ρ M s R q l⟩
theorem qssx_one (h : QSX X W st t f) : QSsX X W [st] t f := ⟨pss_one h.p, h.a⟩
theorem qssx_cons (h1 : QSX X W st t f) (h2 : QSsX X W rest u g) : QSsX X W (st :: rest) (tSeq t u) (fSeqX f g) := ⟨pss_cons h1.p h2.p, fun D Dp Wp σ H ρ M s R q l w =>
  h1.a _ _ Wp σ H ρ M s R q ⟨fun σ' H' ρ' M' e r i q => h2.a D Dp Wp σ' H' ρ' M' i r q (l.ext e) (w.ext e), l.rt, l.bk, l.ct⟩ w⟩
theorem qsx_if {c : Expr} {a b : List Stmt} {tc : TT} {fc : FT} (hc : QT X c tc fc) (ha : QSsX X W a t f) (hb : QSsX X W b u g) : QSX X W (.If c a b pos) (tIfS tc t u) (fIfX fc f g) := ⟨ps_if hc.p ha.p hb.p, fun D Dp Wp σ H ρ M s R q l w =>
  hc.a σ H ρ M _ _ _ s R q
    (fun H1 M1 e1 r1 q1 => by
      show if true = true then _ else _
      rw [if_pos rfl]
      exact ha.a D Dp Wp σ H1 ρ M1 (s.ext R e1) r1 q1 (l.ext e1) (w.ext e1))
    (fun H1 M1 e1 r1 q1 => by
      show if false = true then _ else _
      rw [if_neg Bool.false_ne_true]
      exact hb.a D Dp Wp σ H1 ρ M1 (s.ext R e1) r1 q1 (l.ext e1) (w.ext e1))⟩
/-- raise C(e) -/
def fRaise (C : Addr) (f : Str) (fe : FE) : FSX := fun Wp _ ρ M => fe ρ M fun p M1 => ∀ d M', M1 d = none → Le M1 M' → M' d = some (.xd [(f, p)]) → Wp C d ρ M'
theorem qsx_raise {C fI : Addr} {fn x : Str} {a : Expr} {te : TE} {fe : FE} {p pos pos2 : Pos} {k j : Nat} (hc : X.calm = true) (tk : Takes X W) (T : OX.XTxt X.prog X.K C fI fn) (gC : X.mg x = some (.ref C)) (hr : Room j X.A) (hk : k ≤ j) (hg : Gl X x) (ha : QE X a te fe)
    (hdb : (x == ("__debug__" : Str)) = false := by decide) (he : starEach (a :: []) X.env = (false, eval a X.env) :: starEach [] X.env := by rfl) (hpl : (backTo pos (starEach [] X.env)).any (·.1) = false := by rfl) :
    QSX X W (.Raise (some (.Call (.Name x p) [a] [] pos)) none pos2) (fun _ σ H => tMkX C fn (tCons te tNil) σ H fun cls d H' => W cls d σ H') (fRaise C fn fe) := ⟨ps_raise hc tk (pmk_x T gC (hr.mono hk) (pa_cons ha.p pa_nil he) hg hdb he hpl), fun D Dp Wp σ H ρ M s R q l w =>
  ha.a σ H ρ M _ _ s R q fun v H1 p M1 e1 r1 i1 q1 => by
    refine ⟨v, rfl, fun d hd => ?_⟩
    have md := r1.none hd
    have k1 : MOk X.K (upd H1 d (.xd [(fn, v)])) (updM M1 d (.xd [(fn, p)])) d (.xd [(fn, p)]) := ⟨_, upd_same, v, [], rfl, r1.isP (Ext.newM (m := .xd [(fn, p)]) hd) i1, rfl⟩
    exact w C d σ ρ _ _ (e1.trans (Ext.newM hd)) (r1.newM hd k1) ((s.ext R e1).ext r1 (Ext.newM (m := .xd [(fn, p)]) hd)) (q1 d _ md (Le.upd md) updM_same)⟩
theorem qk_nil : QK X [] tNil fNil := ⟨pk_nil, fun σ H ρ M Q Qp s R q l => l _ _ _ _ Ext.refl R IsPs.nil q⟩
theorem qk_cons {kws : List Keyword} {nm : Option Str} {e : Expr} {kpos : Pos} {te : TE} {fe : FE} {t : TA} {f : FA} (ha : QE X e te fe) (hr : QK X kws t f) : QK X (⟨nm, e, kpos⟩ :: kws) (tCons te t) (fCons fe f) := ⟨pk_cons ha.p hr.p, fun σ H ρ M Q Qp s R q l =>
  ha.a σ H ρ M _ _ s R q fun x H1 p M1 e1 r1 i1 q1 => hr.a σ H1 ρ M1 _ _ (s.ext R e1) r1 q1 fun vs H2 ps M2 e2 r2 i2 q2 => l _ _ _ _ (e1.trans e2) r2 (IsPs.cons (r1.isP e2 i1) i2) q2⟩
end
/-! ### a method called, with keywords and defaults; it may raise -/
/-- us positional, its the defaults, ws by keyword -/
def Ga {α : Type} (a b : Nat) (us its ws : List α) : List α := us ++ ((its.drop a).take b ++ ws)
theorem vals_take {vs : List V} {us : List Value} (r : Vals vs us) : ∀ n : Nat, Vals (vs.take n) (us.take n) := by
  induction r with
  | nil => intro n; cases n <;> exact .nil
  | cons h t ih =>
    intro n
    cases n with
    | zero => exact .nil
    | succ n => exact .cons h (ih n)
theorem vals_Ga {a b : Nat} {vs ds zs : List V} {us its ws : List Value} (r : Vals vs us) (rd : Vals ds its) (rz : Vals zs ws) : Vals (Ga a b vs ds zs) (Ga a b us its ws) := r.append ((vals_take (rd.drop a) b).append rz)
theorem isPs_Ga {K : PySem.W.Frag} {H : Hp} {a b : Nat} {ps ds qs : List CR.P} {vs es zs : List V} (r : IsPs K H ps vs) (rd : IsPs K H ds es) (rz : IsPs K H qs zs) : IsPs K H (Ga a b ps ds qs) (Ga a b vs es zs) := r.append (((rd.drop a).take b).append rz)
section
variable {K : PySem.W.Frag} {x qual : Str} {params : Arguments} {body : List Stmt} {scope : Scope} {f : Addr} {fd : FuncData} {ps : List Str}
theorem kb_d {dvs : List V} (F : FunD K x qual params body scope dvs [] f fd) (n : Nat) (ks : List Str) (a b : Nat) (hd : dvs ≠ [])
    (h : ∀ (T : Addr) (kV doc pm : Value) (an : Option Addr) (cdv ct : Value) (us its ws : List Value), us.length = n → its.length = dvs.length → ws.length = ks.length →
      ∃ k, bindArgs (PySem.W.fnOf x qual params body scope (.ref T) kV doc pm an cdv ct) ⟨us, ks.zip ws⟩ = seqItems? (.ref T) >>= k ∧ k (some its.toArray) = pure (ps.zip (Ga a b us its ws))) :
    ∃ g', KBn K fd ps n ks g' (fun vs zs => Ga a b vs dvs zs) := by
  obtain ⟨oc, od, dV, kV, doc, pm, an, cdv, ct, osl, rfl, lk, hcd, hD, hK⟩ := F.ex
  rcases hD with ⟨e, _⟩ | ⟨_, T, o, its, m, rfl, lT, oT, rT⟩
  · exact absurd e hd
  · refine ⟨fun us ws => Ga a b us its ws, fun s us ws X l1 l2 => ?_, fun r1 r2 => vals_Ga r1 rT r2⟩
    obtain ⟨k, e1, e2⟩ := h T kV doc pm an cdv ct us its ws l1 rT.length.symm l2
    refine BindsTo.of_looks fun M => ?_
    rw [e1]
    exact looks_items X lT oT (.of_pure e2)
theorem kb_0 (F : FunD K x qual params body scope [] [] f fd) (h : ∀ (kV doc pm : Value) (an : Option Addr) (cdv ct : Value) (us : List Value), us.length = ps.length → bindArgs (PySem.W.fnOf x qual params body scope .none kV doc pm an cdv ct) ⟨us, []⟩ = pure (ps.zip us)) :
    ∃ g', KBn K fd ps ps.length [] g' (fun vs zs => Ga 0 0 vs [] zs) := by
  have b := F.bindsN h
  refine ⟨fun us ws => Ga 0 0 us [] ws, fun s us ws X l1 l2 => ?_, fun r1 r2 => vals_Ga r1 .nil r2⟩
  cases ws with
  | cons _ _ => cases l2
  | nil =>
    have := b s us X (by rw [List.append_nil]; exact l1)
    rw [List.append_nil] at this
    show BindsTo s fd ⟨us, []⟩ (ps.zip (us ++ ([] ++ [])))
    rw [List.append_nil, List.append_nil]
    exact this
end
def tMethK (C : Addr) (m : Str) (n m' : Nat) (sp : Sp) (gV : List V → List V → List V) (E : L2.St → XK) (to : TE) (t tk : TA) : TE := fun σ H Q => to σ H fun x H1 => ∃ a dx fs, x = .ref a ∧ H1 a = some (.ins C dx fs) ∧ fs.lookup m = none ∧
  t σ H1 fun vs H2 => tk σ H2 fun zs H3 => vs.length + 1 = n ∧ zs.length = m' ∧ sp (gV (.ref a :: vs) zs) H3 Q (E σ)
section
variable {X : Cx} {CX : CXT} {k n : Nat} {f C : Addr} {fd : FuncData} {ps ks : List Str} {sp : Sp} {E : L2.St → XK} {m : Str} {apos pos : Pos} {o e : Expr} {es : List Expr} {kws : List Keyword} {to : TE} {t tk : TA} {g : List Value → List Value → List Value} {gV : List V → List V → List V}
theorem run_fnNS {pins : List (Addr × Obj)} {σ : L2.St} {H : Hp} {s : Shared} {Q : VK} {us ws : List Value} {vs zs : List V} (F : FnOk X.prog X.w X.K X.mg X.base CX k f fd ps sp) (hr : Room k X.A) (hb : KBn X.K fd ps n ks g gV) (hx : PassesAt CX X σ (E σ))
    (I : Inv X pins σ H s) (r : Vals vs us) (rz : Vals zs ws) (l1 : vs.length = n) (l2 : zs.length = ks.length) (h : sp (gV vs zs) H Q (E σ)) : wpAny (model X.prog X.w) X.A (call (.ref f) us (ks.zip ws)) (EP X pins σ Q) X.xe s := by
  have r2 := hb.rel r rz
  refine wpAny_call (codeAny_mono (F.run X.A X.stack s H ⟨us, ks.zip ws⟩ (g us ws) (gV vs zs) Q (E σ) hr I.env0 (hb.to s us ws I.kIn (r.length.symm.trans l1) (rz.length.symm.trans l2)) r2 h) fun r s' hq => ?_)
  cases r with
  | error e => exact hx pins H s e s' I hq
  | ok fl =>
    cases fl with
    | ret u => exact I.after hq
    | next => exact False.elim hq
    | brk => exact False.elim hq
    | cont => exact False.elim hq
theorem pe_methK {pl : Sem Bool} (ho : PE X o to) (c : Cls X.K C) (hm : Meth X.K C m f) (F : FnOk X.prog X.w X.K X.mg X.base CX k f fd ps sp) (hr : Room k X.A) (hb : KBn X.K fd ps n ks g gV) (hx : ∀ σ, PassesAt CX X σ (E σ)) (ha : PA X (e :: es) t) (hkw : PK X kws tk)
    (hall : (backToKw pos (keywordEach kws X.env)).all (·.1.isSome) = true) (hks : (backToKw pos (keywordEach kws X.env)).filterMap (·.1) = ks) (he : starEach (e :: es) X.env = (false, eval e X.env) :: starEach es X.env)
    (hpl : ((backTo pos (starEach (e :: es) X.env)).any (·.1) || (backToKw pos (keywordEach kws X.env)).any (·.1.isNone)) = false)
    (ht : eval (.Call (.Attribute o m apos) (e :: es) kws pos) X.env = (do
      let ov ← eval o X.env
      standAt apos.atName
      let (f, first) ← holding [ov] (getMethod ov m pl)
      callWith pos f first (backTo pos (starEach (e :: es) X.env)) (backToKw pos (keywordEach kws X.env)))) : PE X (.Call (.Attribute o m apos) (e :: es) kws pos) (tMethK C m n ks.length sp gV E to t tk) := by
  refine ⟨fun pins s σ H Q I h => ?_⟩
  refine PySem.W.methodCall_KW (pl := pl) (thn (ho.run pins s σ H _ I h) fun u s1 ⟨x, H1, I1, rx, a, dx, fs, ex, ea, l, q⟩ => ?_) ht
  subst ex
  obtain rfl : u = Value.ref a := rx
  refine getmeth_ok I1 ea c hm l ?_
  refine PySem.W.callWith_KW (first := [.ref a]) (h₀ := X.base) I.ok.mod.kin hm.kp hall (thn (ha.run pos pins s1 σ H1 _ I1 q) fun us s2 ⟨vs, H2, I2, r, q2⟩ => ?_) hpl he
  refine thn (hkw.run pos pins s2 σ H2 _ I2 q2) fun ws s3 ⟨zs, H3, I3, rz, l1, l2, q3⟩ => ⟨I3.kIn, ?_⟩
  rw [hks]
  exact run_fnNS (us := .ref a :: us) (vs := .ref a :: vs) F hr hb (hx σ) I3 (.cons rfl r) rz l1 l2 q3
end
/-- a method that may raise -/
structure MetX (P : Program) (w : World) (K : PySem.W.Frag) (mg : Str → Option Value) (base : Heap) (k : Nat) (C : Addr) (m qual : Str) (st : Stmt) (is : List Int) (ps : List Str) (sp : Sp) : Prop where
  ex : ∃ f fd, FunD K m qual (defArgs st) (defBody st) (defScope st) (is.map V.int) [] f fd ∧ Cls K C ∧ Meth K C m f ∧ FnOk P w K mg base (L2.CX P w) k f fd ps sp
def fSetMX (i : Nat) (C : Addr) (m : Str) (n m' a b : Nat) (is : List Int) (sp : PSpX) (fo : FE) (fa fk : FA) : FSX := fun Wp D ρ M => fo ρ M fun x M1 => match x with
  | .ref o => ∃ dx fs, M1 o = some (.ins C dx fs) ∧ lkP m fs = none ∧ fa ρ M1 fun ps M2 => fk ρ M2 fun qs M3 => ps.length + 1 = n ∧ qs.length = m' ∧ sp (Ga a b (.ref o :: ps) (is.map CR.P.int) qs) M3 (fun p M4 => D.nx (setS ρ i p) M4) (fun C' d M4 => Wp C' d ρ M4)
  | _ => False
theorem qsx_setM {X : Cx} {W : WX} {k j n a b i : Nat} {C : Addr} {m qual x : Str} {st : Stmt} {is : List Int} {ps ks : List Str} {sp : PSpX} {apos pos pos' spos : Pos} {o e : Expr} {es : List Expr} {kws : List Keyword} {to : TE} {fo : FE} {t tk : TA} {f fk : FA} {pl : Sem Bool}
    (c : MetX X.prog X.w X.K X.mg X.base k C m qual st is ps (toSpX X.K sp)) (hr : Room j X.A) (hk : k ≤ j) (tkW : Takes X W) (hN : X.N.Nodup) (hi : X.N[i]? = some x) (hx : Loc X.env.scope x) (ho : QE X o to fo) (ha : QA X (e :: es) t f) (hq : QK X kws tk fk)
    (kb : ∀ {fa fd}, FunD X.K m qual (defArgs st) (defBody st) (defScope st) (is.map V.int) [] fa fd → ∃ g', KBn X.K fd ps n ks g' (fun vs zs => Ga a b vs (is.map V.int) zs))
    (hs : swapsWith (.Call (.Attribute o m apos) (e :: es) kws pos) (some (.Name x pos')) spos.line X.env = pure false := by rfl) (hf : X.fn x = true ∨ X.env.scope.names.lookup x = some .local := by first | exact .inl rfl | exact .inr rfl | assumption)
    (hall : (backToKw pos (keywordEach kws X.env)).all (·.1.isSome) = true := by rfl) (hks : (backToKw pos (keywordEach kws X.env)).filterMap (·.1) = ks := by rfl) (he : starEach (e :: es) X.env = (false, eval e X.env) :: starEach es X.env := by rfl)
    (hpl : ((backTo pos (starEach (e :: es) X.env)).any (·.1) || (backToKw pos (keywordEach kws X.env)).any (·.1.isNone)) = false := by rfl)
    (ht : eval (.Call (.Attribute o m apos) (e :: es) kws pos) X.env = (do
      let ov ← eval o X.env
      standAt apos.atName
      let (f, first) ← holding [ov] (getMethod ov m pl)
      callWith pos f first (backTo pos (starEach (e :: es) X.env)) (backToKw pos (keywordEach kws X.env))) := by rfl) :
    QSX X W (.Assign [.Name x pos'] (.Call (.Attribute o m apos) (e :: es) kws pos) spos) (tAsg (tMethK C m n ks.length (toSpX X.K sp) (fun vs zs => Ga a b vs (is.map V.int) zs) (WE W) to t tk) (gName i)) (fSetMX i C m n ks.length a b is sp fo f fk) := by
  obtain ⟨fa, fd, F, hc, hm, G⟩ := c.ex
  obtain ⟨g', KB⟩ := kb F
  refine ⟨ps_set hN hi hx (pe_methK ho.p hc hm G (hr.mono hk) KB (fun σ => passAt tkW σ) ha.p hq.p hall hks he hpl ht) hs hf, fun D Dp Wp σ H ρ M s R q l w => ?_⟩
  refine ho.a σ H ρ M _ _ s R q fun x H1 p1 M1 e1 r1 i1 q1 => ?_
  cases p1 with
  | ref o =>
    cases (show x = V.ref o from i1)
    obtain ⟨dx, fs, hm1, hl, q2⟩ := q1
    obtain ⟨gs, hg, ok⟩ := r1 o _ hm1
    have s1 := s.ext R e1
    refine ⟨o, dx, gs, rfl, hg, fs_none ok hl, ha.a σ H1 ρ M1 _ _ s1 r1 q2 fun vs H2 ps2 M2 e2 r2 i2 q3 => ?_⟩
    have s2 := s1.ext r1 e2
    refine hq.a σ H2 ρ M2 _ _ s2 r2 q3 fun zs H3 qs M3 e3 r3 i3 q4 => ?_
    obtain ⟨n1, n2, q5⟩ := q4
    have s3 := s2.ext r2 e3
    have ee := (e1.trans e2).trans e3
    refine ⟨by rw [i2.length]; exact n1, by rw [i3.length]; exact n2, Ga a b (.ref o :: ps2) (is.map CR.P.int) qs, M3, _, _, isPs_Ga (IsPs.cons (p := .ref o) rfl (r2.isPs e3 i2)) (IsPs.ofInts is) i3, r3, q5, fun v H4 p4 M4 e4 r4 i4 q6 => ?_, fun C' d H4 M4 e4 r4 q6 => ?_⟩
    · exact l.nx _ _ _ _ (ee.trans e4) r4 ((s3.ext r3 e4).set i4) q6
    · exact w C' d σ ρ H4 M4 (ee.trans e4) r4 (s3.ext r3 e4) q6
  | _ => exact q1.elim
/-! ### a def that may raise -/
section
variable {P : Program} {w : World} {K : PySem.W.Frag} {mg : Str → Option Value} {base : Heap}
theorem fn_bodyX {x : Str} {params : Arguments} {body : List Stmt} {scope : Scope} {f : Addr} {fd : FuncData} {N ps : List Str} {k : Nat} {sp : PSpX} {dvs : List V} {kws : List (Str × V)} {qual : Str} (F : FunD K x qual params body scope dvs kws f fd) (S : FnScope N ps scope)
    (len : ∀ vs M Q E, sp vs M Q E → vs.length = ps.length)
    (hb : ∀ (cdv : Value) (A : Around) (outer : List Env) (s : Shared) (H : Hp) (E : XK), Room k (A.deeper (PyProof.Rows.envOfC qual scope s.heap.objs.size f cdv)) →
      Takes (cxOf (L2.CX P w) P w K mg base N qual scope f cdv A outer s H E) (fun cls d _ H => E cls d H) →
      ∃ t g, QSsX (cxOf (L2.CX P w) P w K mg base N qual scope f cdv A outer s H E) (fun cls d _ H => E cls d H) body t g ∧ ∀ vs M Q Ep, sp vs M Q Ep → g (fun C d _ M' => ∃ M'', Le M'' M' ∧ Ep C d M'') (fnEnds Q) (startP N vs) M) : FnOk P w K mg base (L2.CX P w) (k + 1) f fd ps (toSpX K sp) :=
  F.ok S (fun vs H Q E h => by
    obtain ⟨qs, M, Qp, Ep, i, _, q, _⟩ := h
    rw [i.length]
    exact len _ _ _ _ q) (fun cdv A outer s H vs Q E hr h => by
    obtain ⟨qs, M, Qp, Ep, i, R, q, l, lx⟩ := h
    obtain ⟨t, g, hq, hg⟩ := hb cdv A outer s H E hr (takes_of rfl rfl rfl rfl)
    refine ⟨t, hq.p, hq.a _ (fnEnds Qp) _ _ H _ M (isS_start i ?_) R (hg qs M Qp Ep q) ⟨?_, ?_, ?_, ?_⟩ ?_⟩
    · rw [i.length, len _ _ _ _ q]
      exact scope_le S
    · intro σ' H' ρ' M' e r s1 q1
      obtain ⟨M'', le, q2⟩ := q1
      exact l .non H' .non M'' (e.less le) (r.less le) rfl q2
    · intro v H' p M' e r i1 q1
      obtain ⟨M'', le, q2⟩ := q1
      exact l v H' p M'' (e.less le) (r.less le) i1 q2
    · intro _ _ _ _ _ _ _ q1
      exact q1.elim
    · intro _ _ _ _ _ _ _ q1
      exact q1.elim
    · intro C d σ' ρ' H' M' e r s1 q1
      obtain ⟨M'', le, q2⟩ := q1
      exact lx C d H' M'' (e.less le) (r.less le) q2)
end
/-! ### try: .. except x as n: .. -/
def fTry (K : PySem.W.Frag) (i : Nat) (c : Addr) (fb : FSX) (fs : Addr → Value → Option Addr → FS) : FS := fun D ρ M => fb (fun C d ρ' M' => PySem.W.exmOne K (.ref C) (.ref c) = some true ∧
  ∀ a, fs a (.ref C) (some d) { nx := fun ρ2 M2 => D.nx (clrS ρ2 i) M2, rt := D.rt, bk := fun ρ2 M2 => D.bk (clrS ρ2 i) M2, ct := fun ρ2 M2 => D.ct (clrS ρ2 i) M2 } (setS ρ' i (.ref a)) M') D ρ M
theorem qs_try {X : Cx} {x n : Str} {c : Addr} {i : Nat} {body suite : List Stmt} {b₀ : Stmt} {np pos pos' : Pos} {tb : WX → TS} {fb : FSX} {ts : Addr → Value → Option Addr → TS} {fs : Addr → Value → Option Addr → FS} (hs : X.stack = X.env :: X.outer) (hf : X.env.frame = some X.env.locals) (hN : X.N.Nodup)
    (hi : X.N[i]? = some n) (hln : X.env.kindOf n = some .local) (hc : Names X x (.ref c))
    (hb : ∀ (W : WX) (pn : List (Addr × Obj)) (xe : Value → Shared → Prop), Takes (X.tr pn xe) W → QSsX (X.tr pn xe) W body (tb W) fb)
    (hsu : ∀ (a : Addr) (oe : Obj) (cls : Value) (d : Option Addr) (pn : List (Addr × Obj)), Zc cls d oe → (∃ vs, oe.data = .fields vs) → QSs (X.suite a ((a, oe) :: pn)) (b₀ :: suite) (ts a cls d) (fs a cls d)) :
    QS X (.Try body [.ExceptHandler (some (.Name x np)) (some n) (b₀ :: suite) pos'] [] [] pos) (fun D σ H => tb (wAs X.K (.ref c) i ts (fun _ _ _ _ => False) D) D σ H) (fTry X.K i c fb fs) := by
  refine ⟨ps_try_as hs hf hN hi hln hc takes0 (fun W pn xe tk _ => (hb W pn xe tk).p) (fun a oe cls d pn hz hd => (hsu a oe cls d pn hz hd).p), fun D Dp σ H ρ M s R q l => ?_⟩
  have hb' := hb (wAs X.K (.ref c) i ts (fun _ _ _ _ => False) D) [] (fun _ _ => True) (fun _ _ _ => trivial)
  refine hb'.a D Dp _ σ H ρ M s R q l fun C d σ' ρ' H' M' e r i' hq => ?_
  obtain ⟨ex, hq⟩ := hq
  refine ⟨true, ex, fun _ a na => ?_, fun z => nomatch z⟩
  have hs' := hsu a { cls := .ref C, dict := some d, data := .fields #[] } (.ref C) (some d) [] ⟨rfl, rfl⟩ ⟨_, rfl⟩
  exact hs'.a _ _ _ _ _ _ (i'.set (p := .ref a) rfl) r (hq a) ⟨fun σ2 H2 ρ2 M2 e2 r2 s2 q2 => l.nx _ H2 _ M2 (e.trans e2) r2 s2.clr q2, l.rt.ext e, fun σ2 H2 ρ2 M2 e2 r2 s2 q2 => l.bk _ H2 _ M2 (e.trans e2) r2 s2.clr q2, fun σ2 H2 ρ2 M2 e2 r2 s2 q2 => l.ct _ H2 _ M2 (e.trans e2) r2 s2.clr q2⟩
/-! ### in the suite -/
def fFldX (C : Addr) (f : Str) (a : Addr) (cls : Value) (d : Option Addr) (fe : FE) : FE := fun ρ M Q => fe ρ M fun x M1 => x = .ref a ∧ cls = .ref C ∧ ∃ dd p, d = some dd ∧ M1 dd = some (.xd [(f, p)]) ∧ Q p M1
def fIsX (K : PySem.W.Frag) (D a : Addr) (cls : Value) (d : Option Addr) (fe : FE) : FE := fun ρ M Q => fe ρ M fun x M1 => x = .ref a ∧ ∃ C dd fs b, cls = .ref C ∧ d = some dd ∧ L2.ExcC K C ∧ M1 dd = some (.xd fs) ∧ PySem.W.kitOne K (.ref C) (.ref D) = some b ∧ Q (.bl b) M1
section
variable {X : Cx} {C fI D a : Addr} {f x : Str} {oe : Obj} {cls : Value} {d : Option Addr} {pn : List (Addr × Obj)} {e : Expr} {te : TE} {fe : FE} {pos p p2 : Pos}
theorem qe_fldX (T : OX.XTxt X.prog X.K C fI f) (hz : Zc cls d oe) (hf : ∃ vs, oe.data = .fields vs) (he : QE (X.suite a ((a, oe) :: pn)) e te fe) (hb : attributeBase e f X.env (eval e X.env) = eval e X.env := by rfl) :
    QE (X.suite a ((a, oe) :: pn)) (.Attribute e f pos) (tFldX C f a cls d te) (fFldX C f a cls d fe) := ⟨pe_fldX T hz hf he.p hb, fun σ H ρ M Q Qp s R q l => he.a σ H ρ M _ _ s R q fun v H1 p1 M1 e1 r1 i1 q1 => by
    obtain ⟨rfl, ec, dd, p, ed, hm, q2⟩ := q1
    obtain ⟨gs, hg, ok⟩ := r1 dd _ hm
    obtain ⟨u, t, rfl, iu, ht⟩ := ok
    rw [show t = [] from ht] at hg
    exact ⟨i1, ec, dd, u, ed, hg, (l.ext e1).at r1 q2 iu⟩⟩
def rIsXg (K : PySem.W.Frag) (a : Addr) (cls : Value) (d : Option Addr) : List V → Hp → VK → Prop := fun xs H Q => ∃ C dd, cls = .ref C ∧ d = some dd ∧ L2.ExcC K C ∧ rIsX K C a dd xs H Q
theorem call_isXg (hz : Zc cls d oe) (hf : ∃ vs, oe.data = .fields vs) : CallR (X.suite a ((a, oe) :: pn)) (.builtin "isinstance") (rIsXg X.K a cls d) := by
  intro pins s σ H xs us Q I r h
  obtain ⟨C, dd, rfl, rfl, T, h⟩ := h
  exact call_isX T hz hf pins s σ H xs us Q I r h
theorem qe_isX (hz : Zc cls d oe) (hf : ∃ vs, oe.data = .fields vs) (hg : Gl (X.suite a ((a, oe) :: pn)) "isinstance") (hm : X.mg "isinstance" = none) (hv : bootBuiltins "isinstance" = some (.builtin "isinstance")) (hg2 : Gl (X.suite a ((a, oe) :: pn)) x) (hm2 : X.mg x = some (.ref D))
    (he : QE (X.suite a ((a, oe) :: pn)) e te fe) (hd2 : (x == ("__debug__" : Str)) = false := by decide)
    (s1 : starEach [e, .Name x p2] X.env = (false, eval e X.env) :: starEach [.Name x p2] X.env := by rfl) (s2 : starEach [.Name x p2] X.env = (false, eval (.Name x p2) X.env) :: starEach [] X.env := by rfl) (hpl : (backTo pos (starEach [.Name x p2] X.env)).any (·.1) = false := by rfl) :
    QE (X.suite a ((a, oe) :: pn)) (.Call (.Name "isinstance" p) [e, .Name x p2] [] pos) (tCB (rIsXg X.K a cls d) (tCons te (tCons (tC (.ref D)) tNil))) (fIsX X.K D a cls d fe) :=
  ⟨pe_callB (call_isXg hz hf) hg hm hv (pa_cons he.p (pa_cons (pe_glob hg2 hm2 rfl hd2) pa_nil s2) s1) (by decide) (by decide) s1 hpl, fun σ H ρ M Q Qp s R q l =>
    he.a σ H ρ M _ _ s R q fun v H1 p1 M1 e1 r1 i1 q1 => by
      obtain ⟨rfl, C, dd, fs, b, ec, ed, T, hm, hk, q2⟩ := q1
      obtain ⟨gs, hg, ok⟩ := r1 dd _ hm
      cases (show v = V.ref a from i1)
      exact ⟨C, dd, ec, ed, T, .ref D, .ref D, b, gs, rfl, hg, fun u hu => hu, hk, (l.ext e1).at r1 q2 rfl⟩⟩
end
end CR

set_option Elab.async false
set_option linter.all false
set_option maxRecDepth 100000
set_option maxHeartbeats 4000000
/-! PV19: a classmethod, a method called with keywords and defaults; raising methods' facts. -/
namespace CR
open PySem PySem.Spec PyProof.Rows L2
section
variable {P : Program} {w : World} {K : PySem.W.Frag} {mg : Str → Option Value} {base : Heap}
/-- a raising method's text -/
structure XMStd (K : PySem.W.Frag) (C : Addr) (m qual : Str) (st : Stmt) (is : List Int) : Prop where
  ex : ∃ f fd, FunD K m qual (defArgs st) (defBody st) (defScope st) (is.map V.int) [] f fd ∧ Cls K C ∧ Meth K C m f
theorem XMStd.metx {C : Addr} {m qual : Str} {st : Stmt} {is : List Int} {N ps : List Str} {k : Nat} {sp : PSpX} (F : XMStd K C m qual st is) (S : FnScope N ps (defScope st)) (len : ∀ vs M Q E, sp vs M Q E → vs.length = ps.length)
    (hb : ∀ (f : Addr) (cdv : Value) (A : Around) (outer : List Env) (s : Shared) (H : Hp) (E : XK), Room k (A.deeper (PyProof.Rows.envOfC qual (defScope st) s.heap.objs.size f cdv)) →
      Takes (cxOf (L2.CX P w) P w K mg base N qual (defScope st) f cdv A outer s H E) (fun cls d _ H => E cls d H) →
      ∃ t g, QSsX (cxOf (L2.CX P w) P w K mg base N qual (defScope st) f cdv A outer s H E) (fun cls d _ H => E cls d H) (defBody st) t g ∧ ∀ vs M Q Ep, sp vs M Q Ep → g (fun C d _ M' => ∃ M'', Le M'' M' ∧ Ep C d M'') (fnEnds Q) (startP N vs) M) :
    MetX P w K mg base (k + 1) C m qual st is ps (toSpX K sp) := by
  obtain ⟨f, fd, F1, hc, hm⟩ := F.ex
  exact ⟨f, fd, F1, hc, hm, fn_bodyX F1 S len (hb f)⟩
/-- a classmethod with its def at hand -/
structure CMD (P : Program) (w : World) (K : PySem.W.Frag) (mg : Str → Option Value) (base : Heap) (k : Nat) (C : Addr) (m qual : Str) (st : Stmt) (is : List Int) (ps : List Str) (sp : Sp) : Prop where
  ex : ∃ mc p f fd, FunD K m qual (defArgs st) (defBody st) (defScope st) (is.map V.int) [] f fd ∧ ClX.CRead K C mc ∧ ClX.CMet K C mc m p f ∧ FnOk P w K mg base C8.CX0 k f fd ps sp
theorem CStd.cmd {C : Addr} {m qual : Str} {st : Stmt} {is : List Int} {N ps : List Str} {k : Nat} {sp : PSp} (F : CStd K C m qual st (is.map V.int)) (S : FnScope N ps (defScope st)) (len : ∀ vs M Q, sp vs M Q → vs.length = ps.length)
    (hb : ∀ (f : Addr) (cdv : Value) (A : Around) (outer : List Env) (s : Shared) (H : Hp) (E : XK), Room k (A.deeper (PyProof.Rows.envOfC qual (defScope st) s.heap.objs.size f cdv)) →
      ∃ t g, QSs (cxOf C8.CX0 P w K mg base N qual (defScope st) f cdv A outer s H E).nox (defBody st) t g ∧ ∀ vs M Q, sp vs M Q → g (fnEnds Q) (startP N vs) M) : CMD P w K mg base (k + 1) C m qual st is ps (toSp K sp) := by
  obtain ⟨mc, p, f, fd, F1, h1, h2⟩ := F.ex
  exact ⟨mc, p, f, fd, F1, h1, h2, fn_body F1 S len (hb f)⟩
end
def tCMK (C : Addr) (n m' : Nat) (sp : Sp) (gV : List V → List V → List V) (to : TE) (t tk : TA) : TE := fun σ H Q => to σ H fun x H1 => x = .ref C ∧ t σ H1 fun vs H2 => tk σ H2 fun zs H3 => vs.length + 1 = n ∧ zs.length = m' ∧ sp (gV (.ref C :: vs) zs) H3 Q C8.E0
section
variable {X : Cx} {k n : Nat} {f C p : Addr} {mc : Value} {fd : FuncData} {ps ks : List Str} {sp : Sp} {m : Str} {apos pos : Pos} {o e : Expr} {es : List Expr} {kws : List Keyword} {to : TE} {t tk : TA} {g : List Value → List Value → List Value} {gV : List V → List V → List V}
theorem pe_cmK {pl : Sem Bool} (ho : PE X o to) (r : ClX.CRead X.K C mc) (c : ClX.CMet X.K C mc m p f) (F : FnOk X.prog X.w X.K X.mg X.base C8.CX0 k f fd ps sp) (hr : Room k X.A) (hb : KBn X.K fd ps n ks g gV) (ha : PA X (e :: es) t) (hkw : PK X kws tk)
    (hall : (backToKw pos (keywordEach kws X.env)).all (·.1.isSome) = true) (hks : (backToKw pos (keywordEach kws X.env)).filterMap (·.1) = ks) (he : starEach (e :: es) X.env = (false, eval e X.env) :: starEach es X.env)
    (hpl : ((backTo pos (starEach (e :: es) X.env)).any (·.1) || (backToKw pos (keywordEach kws X.env)).any (·.1.isNone)) = false)
    (ht : eval (.Call (.Attribute o m apos) (e :: es) kws pos) X.env = (do
      let ov ← eval o X.env
      standAt apos.atName
      let (f, first) ← holding [ov] (getMethod ov m pl)
      callWith pos f first (backTo pos (starEach (e :: es) X.env)) (backToKw pos (keywordEach kws X.env)))) : PE X (.Call (.Attribute o m apos) (e :: es) kws pos) (tCMK C n ks.length sp gV to t tk) := by
  refine ⟨fun pins s σ H Q I h => ?_⟩
  refine PySem.W.methodCall_KW (pl := pl) (thn (ho.run pins s σ H _ I h) fun u s1 ⟨x, H1, I1, rx, ex, q⟩ => ?_) ht
  subst ex
  obtain rfl : u = Value.ref C := rx
  refine ClX.getmethcm_ok I1 r c fun s2 I2 => ?_
  refine PySem.W.callWith_of hpl (PySem.W.keeps_M (K := X.K) (self := .ref C) c.fi) (PyProof.Rows.evalArgs_kw2 hall (thn (ha.run pos _ s2 σ H1 _ I2 q) fun us s3 ⟨vs, H2, I3, rv, q2⟩ => ?_) he)
  refine thn (hkw.run pos _ s3 σ H2 _ I3 q2) fun ws s4 ⟨zs, H3, I4, rz, l1, l2, q3⟩ => ⟨⟨ClX.pin_at I4, I4.kIn⟩, ?_⟩
  rw [hks]
  have r2 := hb.rel (vs := .ref C :: vs) (us := .ref C :: us) (.cons rfl rv) rz
  have z : wpAny (model X.prog X.w) X.A (call (.ref s1.heap.objs.size) us (ks.zip ws)) (EP X ((s1.heap.objs.size, PySem.W.methodObj (.ref f) (.ref C)) :: pins) σ Q) X.xe s4 := by
    refine wpAny_call (PySem.W.method_call (ClX.pin_at I4) (codeAny_mono (F.run X.A X.stack s4 H3 ⟨.ref C :: us, ks.zip ws⟩ (g (.ref C :: us) ws) (gV (.ref C :: vs) zs) Q C8.E0 hr I4.env0 (hb.to s4 (.ref C :: us) ws I4.kIn (by show us.length + 1 = n; rw [← rv.length]; exact l1) (rz.length.symm.trans l2)) r2 q3) fun r s' hq => ?_))
    cases r with
    | error e => exact C8.pass0 (E := C8.E0) _ _ _ _ _ _ I4 hq
    | ok fl =>
      cases fl with
      | ret u => exact I4.after hq
      | next => exact False.elim hq
      | brk => exact False.elim hq
      | cont => exact False.elim hq
  exact thn z fun _ _ y => ClX.unpinE y
end
def fCMK (C : Addr) (n m' a b : Nat) (is : List Int) (sp : PSp) (fo : FE) (fa fk : FA) : FE := fun ρ M Q => fo ρ M fun x M1 => match x with
  | .ref c => c = C ∧ fa ρ M1 fun ps M2 => fk ρ M2 fun qs M3 => ps.length + 1 = n ∧ qs.length = m' ∧ sp (Ga a b (.ref C :: ps) (is.map CR.P.int) qs) M3 Q
  | _ => False
theorem qe_cmK {X : Cx} {k j n a b : Nat} {C : Addr} {m qual : Str} {st : Stmt} {is : List Int} {ps ks : List Str} {sp : PSp} {apos pos : Pos} {o e : Expr} {es : List Expr} {kws : List Keyword} {to : TE} {fo : FE} {t tk : TA} {f fk : FA} {pl : Sem Bool}
    (c : CMD X.prog X.w X.K X.mg X.base k C m qual st is ps (toSp X.K sp)) (hr : Room j X.A) (hk : k ≤ j) (ho : QE X o to fo) (ha : QA X (e :: es) t f) (hq : QK X kws tk fk)
    (kb : ∀ {fa fd}, FunD X.K m qual (defArgs st) (defBody st) (defScope st) (is.map V.int) [] fa fd → ∃ g', KBn X.K fd ps n ks g' (fun vs zs => Ga a b vs (is.map V.int) zs))
    (hall : (backToKw pos (keywordEach kws X.env)).all (·.1.isSome) = true := by rfl) (hks : (backToKw pos (keywordEach kws X.env)).filterMap (·.1) = ks := by rfl) (he : starEach (e :: es) X.env = (false, eval e X.env) :: starEach es X.env := by rfl)
    (hpl : ((backTo pos (starEach (e :: es) X.env)).any (·.1) || (backToKw pos (keywordEach kws X.env)).any (·.1.isNone)) = false := by rfl)
    (ht : eval (.Call (.Attribute o m apos) (e :: es) kws pos) X.env = (do
      let ov ← eval o X.env
      standAt apos.atName
      let (f, first) ← holding [ov] (getMethod ov m pl)
      callWith pos f first (backTo pos (starEach (e :: es) X.env)) (backToKw pos (keywordEach kws X.env))) := by rfl) :
    QE X (.Call (.Attribute o m apos) (e :: es) kws pos) (tCMK C n ks.length (toSp X.K sp) (fun vs zs => Ga a b vs (is.map V.int) zs) to t tk) (fCMK C n ks.length a b is sp fo f fk) := by
  obtain ⟨mc, p, fa, fd, F, h1, h2, G⟩ := c.ex
  obtain ⟨g', KB⟩ := kb F
  refine ⟨pe_cmK ho.p h1 h2 G (hr.mono hk) KB ha.p hq.p hall hks he hpl ht, fun σ H ρ M Q Qp s R q l => ho.a σ H ρ M _ _ s R q fun x H1 p1 M1 e1 r1 i1 q1 => ?_⟩
  cases p1 with
  | ref o =>
    obtain ⟨rfl, q2⟩ := q1
    have s1 := s.ext R e1
    refine ⟨i1, ha.a σ H1 ρ M1 _ _ s1 r1 q2 fun vs H2 ps2 M2 e2 r2 i2 q3 => ?_⟩
    refine hq.a σ H2 ρ M2 _ _ (s1.ext r1 e2) r2 q3 fun zs H3 qs M3 e3 r3 i3 q4 => ?_
    obtain ⟨n1, n2, q5⟩ := q4
    exact ⟨by rw [i2.length]; exact n1, by rw [i3.length]; exact n2, Ga a b (.ref o :: ps2) (is.map CR.P.int) qs, M3, Qp, isPs_Ga (IsPs.cons (p := .ref o) rfl (r2.isPs e3 i2)) (IsPs.ofInts is) i3, r3, q5, ((l.ext e1).ext e2).ext e3⟩
  | _ => exact q1.elim
/-- a method of no errors, called with keywords and defaults -/
structure MetD (P : Program) (w : World) (K : PySem.W.Frag) (mg : Str → Option Value) (base : Heap) (k : Nat) (C : Addr) (m qual : Str) (st : Stmt) (is : List Int) (ps : List Str) (sp : Sp) : Prop where
  ex : ∃ f fd, FunD K m qual (defArgs st) (defBody st) (defScope st) (is.map V.int) [] f fd ∧ Cls K C ∧ Meth K C m f ∧ FnOk P w K mg base C8.CX0 k f fd ps sp
theorem XMStd.metd {P : Program} {w : World} {K : PySem.W.Frag} {mg : Str → Option Value} {base : Heap} {C : Addr} {m qual : Str} {st : Stmt} {is : List Int} {N ps : List Str} {k : Nat} {sp : PSp} (F : XMStd K C m qual st is) (S : FnScope N ps (defScope st)) (len : ∀ vs M Q, sp vs M Q → vs.length = ps.length)
    (hb : ∀ (f : Addr) (cdv : Value) (A : Around) (outer : List Env) (s : Shared) (H : Hp) (E : XK), Room k (A.deeper (PyProof.Rows.envOfC qual (defScope st) s.heap.objs.size f cdv)) →
      ∃ t g, QSs (cxOf C8.CX0 P w K mg base N qual (defScope st) f cdv A outer s H E).nox (defBody st) t g ∧ ∀ vs M Q, sp vs M Q → g (fnEnds Q) (startP N vs) M) : MetD P w K mg base (k + 1) C m qual st is ps (toSp K sp) := by
  obtain ⟨f, fd, F1, hc, hm⟩ := F.ex
  exact ⟨f, fd, F1, hc, hm, fn_body F1 S len (hb f)⟩
def fMD (C : Addr) (m : Str) (n m' a b : Nat) (is : List Int) (sp : PSp) (fo : FE) (fa fk : FA) : FE := fun ρ M Q => fo ρ M fun x M1 => match x with
  | .ref o => ∃ dx fs, M1 o = some (.ins C dx fs) ∧ lkP m fs = none ∧ fa ρ M1 fun ps M2 => fk ρ M2 fun qs M3 => ps.length + 1 = n ∧ qs.length = m' ∧ sp (Ga a b (.ref o :: ps) (is.map CR.P.int) qs) M3 Q
  | _ => False
theorem qe_md {X : Cx} {k j n a b : Nat} {C : Addr} {m qual : Str} {st : Stmt} {is : List Int} {ps ks : List Str} {sp : PSp} {apos pos : Pos} {o e : Expr} {es : List Expr} {kws : List Keyword} {to : TE} {fo : FE} {t tk : TA} {f fk : FA} {pl : Sem Bool}
    (c : MetD X.prog X.w X.K X.mg X.base k C m qual st is ps (toSp X.K sp)) (hr : Room j X.A) (hk : k ≤ j) (ho : QE X o to fo) (ha : QA X (e :: es) t f) (hq : QK X kws tk fk)
    (kb : ∀ {fa fd}, FunD X.K m qual (defArgs st) (defBody st) (defScope st) (is.map V.int) [] fa fd → ∃ g', KBn X.K fd ps n ks g' (fun vs zs => Ga a b vs (is.map V.int) zs))
    (hall : (backToKw pos (keywordEach kws X.env)).all (·.1.isSome) = true := by rfl) (hks : (backToKw pos (keywordEach kws X.env)).filterMap (·.1) = ks := by rfl) (he : starEach (e :: es) X.env = (false, eval e X.env) :: starEach es X.env := by rfl)
    (hpl : ((backTo pos (starEach (e :: es) X.env)).any (·.1) || (backToKw pos (keywordEach kws X.env)).any (·.1.isNone)) = false := by rfl)
    (ht : eval (.Call (.Attribute o m apos) (e :: es) kws pos) X.env = (do
      let ov ← eval o X.env
      standAt apos.atName
      let (f, first) ← holding [ov] (getMethod ov m pl)
      callWith pos f first (backTo pos (starEach (e :: es) X.env)) (backToKw pos (keywordEach kws X.env))) := by rfl) :
    QE X (.Call (.Attribute o m apos) (e :: es) kws pos) (tMethK C m n ks.length (toSp X.K sp) (fun vs zs => Ga a b vs (is.map V.int) zs) (fun _ => C8.E0) to t tk) (fMD C m n ks.length a b is sp fo f fk) := by
  obtain ⟨fa, fd, F, hc, hm, G⟩ := c.ex
  obtain ⟨g', KB⟩ := kb F
  refine ⟨pe_methK ho.p hc hm G (hr.mono hk) KB (fun σ pins H s e s' I z => C8.pass0 pins σ H s e s' I z) ha.p hq.p hall hks he hpl ht, fun σ H ρ M Q Qp s R q l => ho.a σ H ρ M _ _ s R q fun x H1 p1 M1 e1 r1 i1 q1 => ?_⟩
  cases p1 with
  | ref o =>
    cases (show x = V.ref o from i1)
    obtain ⟨dx, fs, hm1, hl, q2⟩ := q1
    obtain ⟨gs, hg, ok⟩ := r1 o _ hm1
    have s1 := s.ext R e1
    refine ⟨o, dx, gs, rfl, hg, fs_none ok hl, ha.a σ H1 ρ M1 _ _ s1 r1 q2 fun vs H2 ps2 M2 e2 r2 i2 q3 => ?_⟩
    refine hq.a σ H2 ρ M2 _ _ (s1.ext r1 e2) r2 q3 fun zs H3 qs M3 e3 r3 i3 q4 => ?_
    obtain ⟨n1, n2, q5⟩ := q4
    exact ⟨by rw [i2.length]; exact n1, by rw [i3.length]; exact n2, Ga a b (.ref o :: ps2) (is.map CR.P.int) qs, M3, Qp, isPs_Ga (IsPs.cons (p := .ref o) rfl (r2.isPs e3 i2)) (IsPs.ofInts is) i3, r3, q5, ((l.ext e1).ext e2).ext e3⟩
  | _ => exact q1.elim
end CR

set_option Elab.async false
set_option linter.all false
set_option maxRecDepth 100000
set_option maxHeartbeats 4000000
/-! PV20: an error's class, from the head's facts. -/
namespace CR
open PySem PySem.Spec L2
/-- the shape of such an __init__ -/
def XShape (f : Str) (st : Stmt) : Prop := ∃ (p1 p2 : Pos) (m : Str) (r0 r1 r2 r3 r4 r5 q1 q2 q3 q4 : Pos), defArgs st = OX.xA f p1 p2 ∧ defBody st = OX.xB f m r0 r1 r2 r3 r4 r5 q1 q2 q3 q4 ∧ defScope st = OX.xS f ∧ (r2.endLine == r4.line) = true
theorem xcls_ok {K : PySem.W.Frag} {C : Addr} (h : xcls K C = true) : ∃ nm q N bs bm sn sub ab col dd k0 k1 k2 k3 k5, K.lookup C = some (excClassObj nm q C N bs bm true sn sub ab col dd k0 k1 k2 k3 k5 "ValueError.__new__") ∧ PySem.HandSPX.refsVE bm = true := by
  unfold xcls at h
  split at h
  · rename_i t dd cd sl ho
    split at h
    · rename_i C' bm k0 k1 k2 k3 n k5 hm hs
      simp only [Bool.and_eq_true, decide_eq_true_eq, Bool.not_eq_true'] at h
      obtain ⟨rfl, rfl, rfl, hh, hdel, hr⟩ := h
      obtain ⟨nm, bs, mro, ns, qn, hd, sn, sub, ab, col, del⟩ := cd
      dsimp only at hm hdel hh
      subst hm hdel hh
      have hsl : sl = #[k0, k1, k2, k3, some (.builtin "ValueError.__new__"), k5] := by
        obtain ⟨l⟩ := sl
        simp only at hs
        rw [hs]
      subst hsl
      exact ⟨nm, qn, ns, bs, bm, sn, sub, ab, col, dd, k0, k1, k2, k3, k5, ho, hr⟩
    · cases h
  · cases h
theorem DefX.bool {K : PySem.W.Frag} {d : DefX} (c : ∀ b ∈ d.oks K, b = true) (i : Nat) {b : Bool} (h : (d.oks K)[i]? = some b) : b = true := c b (List.mem_of_getElem? h)
theorem DefX.err {P : Program} {K : PySem.W.Frag} {d : DefX} (e : d.obs K = d.val) (c : ∀ b ∈ d.oks K, b = true) (fo : OX.FldOk d.f) (sh : XShape d.f d.st) (hf : ((P.main.file : Str) == d.file) = true) (ht : (P.main.scope.names.lookup ("super" : Str)).isSome = false) :
    OX.XTxt P K (He.ga K d.C) (d.ini K) d.f ∧ L2.ExcC K (He.ga K d.C) := by
  have b := fun i {x : Bool} (h : (d.oks K)[i]? = some x) => DefX.bool c i h
  refine ⟨⟨xcls_ok (b 0 rfl), He.eqO_ok (b 1 rfl), He.eqO_ok (b 2 rfl), He.eqO_ok (b 3 rfl), He.eqO_ok (b 4 rfl), He.eqO_ok (b 5 rfl), of_decide_eq_true (b 6 rfl), b 7 rfl, of_decide_eq_true (b 8 rfl), of_decide_eq_true (b 9 rfl), of_decide_eq_true (b 10 rfl), of_decide_eq_true (b 11 rfl), b 12 rfl, He.eqO_ok (b 13 rfl), He.eqO_ok (b 14 rfl), He.eqO_ok (b 15 rfl), fo, ht, ?_⟩,
    ⟨He.eqO_ok (b 2 rfl), He.eqO_ok (b 3 rfl), of_decide_eq_true (b 8 rfl), b 12 rfl, He.eqO_ok (b 17 rfl), He.eqO_ok (b 18 rfl), of_decide_eq_true (b 19 rfl), of_decide_eq_true (b 20 rfl)⟩⟩
  have x := b 16 rfl
  obtain ⟨p1, p2, m, r0, r1, r2, r3, r4, r5, q1, q2, q3, q4, s1, s2, s3, s4⟩ := sh
  unfold xfn at x
  unfold DefX.obs at e
  cases q : K.lookup (d.ini K) with
  | none => rw [q] at x; cases x
  | some o =>
    obtain ⟨oc, od, dt, osl⟩ := o
    rw [q] at x e
    cases dt with
    | func fd =>
      obtain ⟨n1, n2, n3, n4, n5, n6, n7, n8, n9, n10, n11, n12, n13, n14, n15⟩ := fd
      have e2 : (some (n1, n2, n3, n4, n5, n6, [], n15) : He.FnW) = some (("__init__" : Str), d.qual, defArgs d.st, FuncBody.stmts (defBody d.st), defScope d.st, mainGlobals, [], builtinsNs) := e
      simp only [Option.some.injEq, Prod.mk.injEq] at e2
      obtain ⟨h1, h2, h3, h4, h5, h6, _, h8⟩ := e2
      subst h1 h2 h3 h4 h5 h6 h8
      dsimp only at x
      split at x
      · rename_i nm cc cda
        simp only [Bool.and_eq_true, decide_eq_true_eq] at x
        obtain ⟨rfl, x1, x2, x3⟩ := x
        refine ⟨oc, od, n10, n11, n12, cda, cc, n14, osl, p1, p2, m, r0, r1, r2, r3, r4, r5, q1, q2, q3, q4, d.qual, s4, ?_, x1, ?_, ?_⟩
        · rw [← s1, ← s2, ← s3]
        · split at x2
          · rename_i ccl cdd vs ccs hv
            split at x2
            · rename_i fl tf hfl
              exact ⟨ccl, cdd, vs, ccs, fl, tf, hv, hfl, by rw [of_decide_eq_true x2]; exact hf⟩
            · cases x2
          · cases x2
        · split at x3
          · rename_i cl cld D csl hv
            exact ⟨cl, cld, csl, by rw [hv, of_decide_eq_true x3]⟩
          · cases x3
      · cases x
    | _ => cases x
/-- an error's class as the rules want it -/
structure Err1 (P : Program) (K : PySem.W.Frag) (mg : Str → Option Value) (x : Str) (C : Addr) (f : Str) : Prop where
  g : mg x = some (.ref C)
  t : ∃ fI, OX.XTxt P K C fI f
  e : L2.ExcC K C
end CR

set_option Elab.async false
set_option linter.all false
set_option maxRecDepth 100000
set_option maxHeartbeats 4000000
/-! PV21: i in a tuple of ints; a walk whose transformers are named after it. -/
namespace CR
open PySem PySem.Spec L2
def pInI : R2P := fun p q M Q => match p, q with
  | .int i, .tup ps => ∃ ns : List Int, ps = ns.map P.int ∧ Q (.bl (inV (.int i) (ns.map V.int))) M
  | _, _ => False
theorem flat_ints : ∀ ns : List Int, (ns.map V.int).all flatV = true
  | [] => rfl
  | _ :: r => by rw [List.map_cons, List.all_cons, flat_ints r]; rfl
theorem ar_inI {K : PySem.W.Frag} : AR2 K (rIn K false) pInI := fun x y p q H M Q Qp hx hy R h l => by
  match p, q, h, hx, hy with
  | .int i, .tup ps, h, hx, hy =>
    obtain ⟨ns, rfl, h⟩ := h
    obtain ⟨a, xs, rfl, hs, hi⟩ := hy
    rw [IsPs.ints hi] at hs
    cases (show x = V.int i from hx)
    exact ⟨a, _, rfl, .inr hs, rfl, flat_ints ns, l.at R h rfl⟩
/-- terms first, their names after -/
theorem qssx_as {X : Cx} {W : WX} {b : List Stmt} {t t' : TS} {f f' : FSX} (z : QSsX X W b t f) (ht : t = t') (hf : f = f') : QSsX X W b t' f' := by
  subst ht hf
  exact z
theorem qss_as {X : Cx} {b : List Stmt} {t t' : TS} {f f' : FS} (z : QSs X b t f) (ht : t = t') (hf : f = f') : QSs X b t' f' := by
  subst ht hf
  exact z
end CR

set_option Elab.async false
set_option linter.all false
set_option maxRecDepth 100000
set_option maxHeartbeats 4000000
/-! D0: the text by places, the names that are free, the constants. -/
namespace CR
open PySem PySem.Spec L2
/-- built-in names that the module leaves alone; gcd as it is imported -/
structure BFree (mg : Str → Option Value) : Prop where
  f_len : mg "len" = none
  f_range : mg "range" = none
  f_sum : mg "sum" = none
  f_tuple : mg "tuple" = none
  f_list : mg "list" = none
  f_max : mg "max" = none
  f_min : mg "min" = none
  f_abs : mg "abs" = none
  f_int : mg "int" = none
  f_str : mg "str" = none
  f_ord : mg "ord" = none
  f_all : mg "all" = none
  f_isinstance : mg "isinstance" = none
  f_bool : mg "bool" = none
  f_gcd : mg "gcd" = some (.builtin "math.gcd")
structure GCI (mg : Str → Option Value) (x : Str) (i : Int) : Prop where
  ex : ∃ t, mg x = some (.int i t)
structure GCS (mg : Str → Option Value) (x : Str) (z : Str) : Prop where
  ex : ∃ t, mg x = some (.str z t)
structure GCT (mg : Str → Option Value) (K : PySem.W.Frag) (x : Str) (a : Addr) (ps : List P) : Prop where
  ex : mg x = some (.ref a) ∧ ∀ H, IsP K H (.tup ps) (.ref a)
section
variable {X : Cx} {x : Str} {pos : Pos}
theorem GCI.qe {i : Int} (h : GCI X.mg x i) (hg : Gl X x) (hd : (x == ("__debug__" : Str)) = false := by decide) : QE X (.Name x pos) (tC (.int i)) (fC (.int i)) := by
  obtain ⟨t, e⟩ := h.ex
  exact qe_glob hg e ⟨t, rfl⟩ (fun _ => rfl) hd
theorem GCS.qe {z : Str} (h : GCS X.mg x z) (hg : Gl X x) (hd : (x == ("__debug__" : Str)) = false := by decide) : QE X (.Name x pos) (tC (.str z)) (fC (.str z)) := by
  obtain ⟨t, e⟩ := h.ex
  exact qe_glob hg e ⟨t, rfl⟩ (fun _ => rfl) hd
theorem GCT.qe {a : Addr} {ps : List P} (h : GCT X.mg X.K x a ps) (hg : Gl X x) (hd : (x == ("__debug__" : Str)) = false := by decide) : QE X (.Name x pos) (tC (.ref a)) (fC (.tup ps)) := qe_glob hg h.ex.1 rfl h.ex.2 hd
theorem qe_gcd {e : Expr} {es : List Expr} {t : TA} {f : FA} {p : Pos} (hg : Gl X "gcd") (hm : X.mg "gcd" = some (.builtin "math.gcd")) (ha : QA X (e :: es) t f)
    (he : starEach (e :: es) X.env = (false, eval e X.env) :: starEach es X.env := by rfl) (hpl : (backTo pos (starEach es X.env)).any (·.1) = false := by rfl) : QE X (.Call (.Name "gcd" p) (e :: es) [] pos) (tCB rGcd t) (fCB pGcd f) :=
  ⟨pe_callBfun cr_gcd hg hm ha.p (by decide) he hpl, ae_cb ac_gcd ha.a⟩
end
end CR

set_option Elab.async false
set_option linter.all false
set_option maxRecDepth 100000
set_option maxHeartbeats 4000000
set_option exponentiation.threshold 300000
namespace CR
open PySem PySem.Spec L2
local macro_rules | `(tactic| walk_at "s") => `(tactic| dsimp only [fRet, fSeq, fCut, fAsg, fDrop, fIfS, fNext, fBreak, fCont, fVar, fC, fOp, fCall, fCons, fNil, fCB, fBMS, fBML, fTup, fLst, fTest, fNot, fAnd, fOr, fAndV, fOrV, fNotV, fIf, fNeg, fChain, fGName, fGTup, fGCons, fGNil, fAugI, fSl, fPart, fNoPart, fRevL, fLstRg, fRepl, fFld, fSFld, fMeth, fProp, fPropSet, fMake, fMakeV, fCMeth, fGSub, fAugSub, fISeq, fIStr, fIRng1, fIRng2, fFor, fWhile, fLc, fYes, fIsi, nth, lawS, startP, setS, clrS, wipeS, fnEnds, pI0, pI])
local macro_rules | `(tactic| walk_at "d") => `(tactic| try dsimp only)
section
variable {P : Program} {w : World} {K : PySem.W.Frag} {mg : Str → Option Value} {base : Heap}
/-- a draw: some number below many -/
def sp_draw : PSp := fun ps M Q => ∃ d n, ps = [.ref d, .int n] ∧ M d = some .drw ∧ (0 < n ∧ n.natAbs < 2 ^ 6000) ∧ ∀ r, 0 ≤ r → r < n → Q (.int r) M
theorem sp_draw_len : ∀ vs M Q, sp_draw vs M Q → vs.length = 2 := fun vs M Q ⟨d, x, e, _⟩ => by rw [e]; rfl
theorem natAbs_div {q n : Int} {b : Nat} (h0 : 0 ≤ q) (hn : 0 < n) (h : q.natAbs < 2 ^ b) : (q / n).natAbs < 2 ^ b := by
  have h1 : q / n ≤ q := Int.ediv_le_self _ h0
  have h2 : 0 ≤ q / n := Int.ediv_nonneg h0 (by omega)
  omega
abbrev s__law_draw : Stmt := top 111
theorem sc__law_draw : FnScope ["d", "many", "found", "size", "cell"] ["d", "many"] (defScope s__law_draw) := ⟨rfl, rfl, rfl, by decide +kernel, rfl, by decide +kernel, by decide +kernel⟩
theorem c__law_draw (F : Std K mg "_law_draw" s__law_draw) (B : BFree mg) : C8.Cal P w K mg base 1 "_law_draw" (toSp K sp_draw) [] := by
  refine F.calD sc__law_draw sp_draw_len (fun _ _ _ _ _ _ us hl => match us, hl with | [_, _], _ => rfl) (fun f cdv A outer s H E hr => ?_)
  have nd := sc__law_draw.nd
  refine ⟨_, _, (qss_cons (qs_if (qt_gt (qe_ixK K (qe_var (i := 0) rfl (by first | exact .inl rfl | exact .inr (.inl rfl) | exact .inr (.inr rfl))) qe_int) qe_int) (qss_cons (qs_set (i := 2) nd rfl (by first | exact .inl rfl | exact .inr rfl) (qe_ixK K (qe_var (i := 0) rfl (by first | exact .inl rfl | exact .inr (.inl rfl) | exact .inr (.inr rfl))) qe_int))
      (qss_cons (qs_asg (qe_fdiv (qe_var (i := 2) rfl (by first | exact .inl rfl | exact .inr (.inl rfl) | exact .inr (.inr rfl))) (qe_var (i := 1) rfl (by first | exact .inl rfl | exact .inr (.inl rfl) | exact .inr (.inr rfl)))) (qg_sub (qe_var (i := 0) rfl (by first | exact .inl rfl | exact .inr (.inl rfl) | exact .inr (.inr rfl))) qe_int))
      (qss_one (qs_ret (qe_mod (qe_callTyK K ac_int cr_int rfl B.f_int (by decide +kernel) (qa_cons (qe_var (i := 2) rfl (by first | exact .inl rfl | exact .inr (.inl rfl) | exact .inr (.inr rfl))) qa_nil)) (qe_var (i := 1) rfl (by first | exact .inl rfl | exact .inr (.inl rfl) | exact .inr (.inr rfl)))))))) qss_nil)
      (qss_cons (qs_set (i := 3) nd rfl (by first | exact .inl rfl | exact .inr rfl) qe_int)
      (qss_cut (qs_if (qt_lt (qe_ixK K (qe_var (i := 0) rfl (by first | exact .inl rfl | exact .inr (.inl rfl) | exact .inr (.inr rfl))) qe_int) (qe_callBK K ac_len call_len rfl B.f_len PySem.boot_len (qa_cons (qe_ixK K (qe_var (i := 0) rfl (by first | exact .inl rfl | exact .inr (.inl rfl) | exact .inr (.inr rfl))) qe_int) qa_nil))) (qss_cons (qs_set (i := 4) nd rfl (by first | exact .inl rfl | exact .inr rfl) (qe_ixK K (qe_ixK K (qe_var (i := 0) rfl (by first | exact .inl rfl | exact .inr (.inl rfl) | exact .inr (.inr rfl))) qe_int) (qe_ixK K (qe_var (i := 0) rfl (by first | exact .inl rfl | exact .inr (.inl rfl) | exact .inr (.inr rfl))) qe_int)))
      (qss_one (qs_set (i := 3) nd rfl (by first | exact .inl rfl | exact .inr rfl) (qe_plusK K (qe_mul qe_int (qe_callBK K ac_abs call_abs rfl B.f_abs (by decide +kernel) (qa_cons (qe_var (i := 4) rfl (by first | exact .inl rfl | exact .inr (.inl rfl) | exact .inr (.inr rfl))) qa_nil))) (qe_callTyK K ac_int cr_int rfl B.f_int (by decide +kernel) (qa_cons (qe_lt (qe_var (i := 4) rfl (by first | exact .inl rfl | exact .inr (.inl rfl) | exact .inr (.inr rfl))) qe_int) qa_nil)))))) qss_nil)
      (qss_cons (qs_augSub1 (qe_var (i := 0) rfl (by first | exact .inl rfl | exact .inr (.inl rfl) | exact .inr (.inr rfl))) qe_int qe_int)
      (qss_cons (qs_if (qt_ge (qe_var (i := 3) rfl (by first | exact .inl rfl | exact .inr (.inl rfl) | exact .inr (.inr rfl))) (qe_mul qe_int (qe_pow qe_int qe_int))) (qss_cons (qs_set (i := 2) nd rfl (by first | exact .inl rfl | exact .inr rfl) (qe_mod (qe_callTyK K ac_int cr_int rfl B.f_int (by decide +kernel) (qa_cons (qe_fdiv (qe_var (i := 3) rfl (by first | exact .inl rfl | exact .inr (.inl rfl) | exact .inr (.inr rfl))) qe_int) qa_nil)) (qe_shl qe_int qe_int)))
      (qss_cons (qs_asg (qe_fdiv (qe_var (i := 2) rfl (by first | exact .inl rfl | exact .inr (.inl rfl) | exact .inr (.inr rfl))) (qe_var (i := 1) rfl (by first | exact .inl rfl | exact .inr (.inl rfl) | exact .inr (.inr rfl)))) (qg_sub (qe_var (i := 0) rfl (by first | exact .inl rfl | exact .inr (.inl rfl) | exact .inr (.inr rfl))) qe_int))
      (qss_one (qs_ret (qe_mod (qe_callTyK K ac_int cr_int rfl B.f_int (by decide +kernel) (qa_cons (qe_var (i := 2) rfl (by first | exact .inl rfl | exact .inr (.inl rfl) | exact .inr (.inr rfl))) qa_nil)) (qe_var (i := 1) rfl (by first | exact .inl rfl | exact .inr (.inl rfl) | exact .inr (.inr rfl)))))))) qss_nil)
      (qss_cons (qs_asg (qe_mod (qe_callTyK K ac_int cr_int rfl B.f_int (by decide +kernel) (qa_cons (qe_plusK K (qe_plusK K (qe_plusK K (qe_mul (qe_ixK K (qe_var (i := 0) rfl (by first | exact .inl rfl | exact .inr (.inl rfl) | exact .inr (.inr rfl))) qe_int) qe_int) (qe_mul (qe_mod (qe_callTyK K ac_int cr_int rfl B.f_int (by decide +kernel) (qa_cons (qe_var (i := 3) rfl (by first | exact .inl rfl | exact .inr (.inl rfl) | exact .inr (.inr rfl))) qa_nil)) qe_int) qe_int)) (qe_mul (qe_ixK K (qe_var (i := 0) rfl (by first | exact .inl rfl | exact .inr (.inl rfl) | exact .inr (.inr rfl))) qe_int) qe_int)) qe_int) qa_nil)) qe_int) (qg_sub (qe_var (i := 0) rfl (by first | exact .inl rfl | exact .inr (.inl rfl) | exact .inr (.inr rfl))) qe_int))
      (qss_one (qs_ret (qe_mod (qe_callTyK K ac_int cr_int rfl B.f_int (by decide +kernel) (qa_cons (qe_fdiv (qe_ixK K (qe_var (i := 0) rfl (by first | exact .inl rfl | exact .inr (.inl rfl) | exact .inr (.inr rfl))) qe_int) qe_int) qa_nil)) (qe_var (i := 1) rfl (by first | exact .inl rfl | exact .inr (.inl rfl) | exact .inr (.inr rfl)))))))))))), fun vs M Q h => ?_⟩
  obtain ⟨d, n, rfl, hd, ⟨hn, hb⟩, k⟩ := h
  refine ⟨d, hd, fun d0 ns p q s M1 nd hv m1 m0 => ?_⟩
  obtain ⟨v1, v3, ⟨v4, v5⟩, v6, v7⟩ := hv
  have fin : ∀ x : Int, Q (.int (x % n)) M := fun x => k _ (Int.emod_nonneg x (by omega)) (Int.emod_lt_of_pos x hn)
  have cn : ∀ x : Int, CDivW x n := fun x => wide_div hn hb (by decide) (by decide)
  walk_at "s"
  refine ix_l m1 (by decide) rfl ?_
  dsimp only
  refine ⟨fun h1 => ?_, fun h1 => ?_⟩
  · refine ix_l m1 (by decide) rfl ?_
    dsimp only
    refine ⟨cn q, ?_⟩
    simp only [m1]
    refine ⟨2, rfl, fun M2 l2 m2 => ?_⟩
    refine ⟨hn, p, q / n, s, ⟨v1, v3, ⟨Int.ediv_nonneg v4 (by omega), natAbs_div v4 hn v5⟩, v6, v7⟩, m2, l2 _ _ nd m0, fin q⟩
  · refine ⟨fun ρ M' => ∃ size c, M' = M1 ∧ 0 ≤ size ∧ ρ = [some (.ref d), some (.int n), none, some (.int size), c], ?_, ?_⟩
    · refine ix_l m1 (by decide) rfl ?_
      refine ix_l m1 (by decide) rfl ?_
      refine len_l m0 ?_
      dsimp only
      refine ⟨fun h2 => ?_, fun h2 => ⟨0, none, rfl, by decide, rfl⟩⟩
      refine ix_l m1 (by decide) rfl ?_
      refine ix_l m1 (by decide) rfl ?_
      have h2' : p < (ns.length : Int) := by simpa using of_decide_eq_true h2
      obtain ⟨c, hc, hcm⟩ := mem_get (xs := ns) (i := p.toNat) (by omega)
      refine ix_l (y := .int c) m0 v3 (by rw [List.getElem?_map, hc]; rfl) ?_
      have ha : 0 ≤ (if c < 0 then -c else c) := by split <;> omega
      have hi : 0 ≤ (if decide (c < 0) = true then (1 : Int) else 0) := by split <;> decide
      dsimp only [pAbs, pInt, pCat]
      exact ⟨cmx_l (by decide) (by decide), 2 * (if c < 0 then -c else c) + (if decide (c < 0) = true then (1 : Int) else 0), some (.int c), rfl, by omega, rfl⟩
    · rintro ρ M' ⟨size, c, rfl, z0, rfl⟩
      walk_at "s"
      rw [m1]
      refine ⟨⟨by decide, by decide⟩, p, rfl, rfl, fun M2 l2 m2 => ?_⟩
      have m2' : M2 d = some (.lst [.ref d0, .int (p + 1), .int q, .int s]) := m2
      have m20 := l2 _ _ nd m0
      refine ⟨⟨by decide, by decide, by decide⟩, cmx_l (by decide) (by decide), fun h2 => ?_, fun h2 => ?_⟩
      · dsimp only [pInt]
        have e0 : 0 ≤ (size / 2) % (1 * 2 ^ (6000 : Int).toNat) := Int.emod_nonneg _ (by
          have : (0 : Int) < 2 ^ (6000 : Int).toNat := Int.pow_pos (by decide)
          omega)
        have e1 : (size / 2) % (1 * 2 ^ (6000 : Int).toNat) < 1 * 2 ^ (6000 : Int).toNat := Int.emod_lt_of_pos _ (by
          have : (0 : Int) < 2 ^ (6000 : Int).toNat := Int.pow_pos (by decide)
          omega)
        have e2 : ((size / 2) % (1 * 2 ^ (6000 : Int).toNat)).natAbs < 2 ^ 6000 := by
          have : ((2 : Int) ^ (6000 : Int).toNat) = ((2 ^ 6000 : Nat) : Int) := by simp
          omega
        have e3 : (0 : Int) < 1 * 2 ^ (6000 : Int).toNat := by
          have : (0 : Int) < 2 ^ (6000 : Int).toNat := Int.pow_pos (by decide)
          omega
        generalize (size / 2) % (1 * 2 ^ (6000 : Int).toNat) = y at e0 e1 e2 ⊢
        refine ⟨⟨by decide, by decide⟩, ⟨by decide, by decide, by decide⟩, e3, cn y, ?_⟩
        rw [m2']
        refine ⟨2, rfl, fun M3 l3 m3 => ?_⟩
        exact ⟨hn, p + 1, y / n, s, ⟨v1, by omega, ⟨Int.ediv_nonneg e0 (by omega), natAbs_div e0 hn e2⟩, v6, v7⟩, m3, l3 _ _ nd m20, fin y⟩
      · refine ix_l m2' (by decide) rfl ?_
        refine ⟨cmx_r (by decide) (by decide), ?_⟩
        dsimp only [pInt]
        refine ⟨by decide, cmx_r (by decide) (by decide), ?_⟩
        dsimp only [pCat]
        refine ix_l m2' (by decide) rfl ?_
        refine ⟨cmx_r (by decide) (by decide), ?_⟩
        generalize s * 48271 + size % 2147483629 * 16807 + (p + 1) * 69621 + 11 = y
        refine ⟨by decide, ?_⟩
        rw [m2']
        refine ⟨3, rfl, fun M3 l3 m3 => ?_⟩
        have m3' : M3 d = some (.lst [.ref d0, .int (p + 1), .int q, .int (y % 2147483647)]) := m3
        refine ix_l m3' (by decide) rfl ?_
        refine ⟨⟨by decide, by decide⟩, hn, p + 1, q, y % 2147483647, ⟨v1, by omega, ⟨v4, v5⟩, Int.emod_nonneg _ (by decide), Int.emod_lt_of_pos _ (by decide)⟩, m3', l3 _ _ nd m20, fin _⟩
def sp_pick : PSp := fun ps M Q => ∃ d x xs, ps = [.ref d, x] ∧ M d = some .drw ∧ (x = .tup xs ∨ ∃ a, x = .ref a ∧ M a = some (.lst xs)) ∧ xs ≠ [] ∧ xs.length < 2 ^ 30 ∧ ∀ y ∈ xs, Q y M
theorem sp_pick_len : ∀ vs M Q, sp_pick vs M Q → vs.length = 2 := fun vs M Q ⟨d, x, xs, e, _⟩ => by rw [e]; rfl
abbrev s__law_pick : Stmt := top 112
theorem sc__law_pick : FnScope ["d", "row"] ["d", "row"] (defScope s__law_pick) := ⟨rfl, rfl, rfl, by decide +kernel, rfl, by decide +kernel, by decide +kernel⟩
theorem c__law_pick (F : Std K mg "_law_pick" s__law_pick) (B : BFree mg) (c__law_draw : C8.Cal P w K mg base 1 "_law_draw" (toSp K sp_draw) []) : C8.Cal P w K mg base 2 "_law_pick" (toSp K sp_pick) [] := by
  refine F.cal sc__law_pick sp_pick_len (fun _ _ _ _ _ _ us hl => match us, hl with | [_, _], _ => rfl) (fun f cdv A outer s H E hr => ?_)
  have nd := sc__law_pick.nd
  refine ⟨_, _, (qss_one (qs_ret (qe_ixK K (qe_var (i := 1) rfl (by first | exact .inl rfl | exact .inr (.inl rfl) | exact .inr (.inr rfl))) (qe_callK K c__law_draw hr (by decide) rfl (qa_cons (qe_var (i := 0) rfl (by first | exact .inl rfl | exact .inr (.inl rfl) | exact .inr (.inr rfl))) (qa_cons (qe_callBK K ac_len call_len rfl B.f_len PySem.boot_len (qa_cons (qe_var (i := 1) rfl (by first | exact .inl rfl | exact .inr (.inl rfl) | exact .inr (.inr rfl))) qa_nil)) qa_nil)))))), fun vs M Q h => ?_⟩
  obtain ⟨d, x, xs, rfl, hd, hx, hn, hl, k⟩ := h
  have hp : 0 < xs.length := List.length_pos_iff.mpr hn
  have hb : (xs.length : Int).natAbs < 2 ^ 6000 := Nat.lt_of_lt_of_le (m := 2 ^ 30) (by omega) (Nat.pow_le_pow_right (by omega) (by omega))
  have fin : ∀ r : Int, 0 ≤ r → r < xs.length → ∃ y, xs[r.toNat]? = some y ∧ y ∈ xs := fun r h0 h1 => mem_get (by omega)
  walk_at "s"
  rcases hx with rfl | ⟨a, rfl, hm⟩
  · refine ⟨d, _, rfl, hd, ⟨by omega, hb⟩, fun r h0 h1 => ?_⟩
    obtain ⟨y, e, hy⟩ := fin r h0 h1
    exact ix_t h0 e ⟨M, Le.refl, k y hy⟩
  · refine len_l hm ?_
    refine ⟨d, _, rfl, hd, ⟨by omega, hb⟩, fun r h0 h1 => ?_⟩
    obtain ⟨y, e, hy⟩ := fin r h0 h1
    exact ix_l hm h0 e ⟨M, Le.refl, k y hy⟩
end
end CR

set_option Elab.async false
set_option linter.all false
set_option maxRecDepth 100000
set_option maxHeartbeats 4000000
set_option exponentiation.threshold 300000
namespace CR
open PySem PySem.Spec L2
local macro_rules | `(tactic| walk_at "s") => `(tactic| dsimp only [fRet, fSeq, fCut, fAsg, fDrop, fIfS, fNext, fBreak, fCont, fVar, fC, fOp, fCall, fCons, fNil, fCB, fBMS, fBML, fTup, fLst, fTest, fNot, fAnd, fOr, fAndV, fOrV, fNotV, fIf, fNeg, fChain, fGName, fGTup, fGCons, fGNil, fAugI, fSl, fPart, fNoPart, fRevL, fLstRg, fRepl, fFld, fSFld, fMeth, fProp, fPropSet, fMake, fMakeV, fCMeth, fGSub, fAugSub, fISeq, fIStr, fIRng1, fIRng2, fFor, fWhile, fLc, fYes, fIsi, nth, lawS, startP, setS, clrS, wipeS, fnEnds, pI0, pI])
local macro_rules | `(tactic| walk_at "d") => `(tactic| try dsimp only)
section
variable {P : Program} {w : World} {K : PySem.W.Frag} {mg : Str → Option Value} {base : Heap}
/-- numbers in bounds -/
def fr (n d : Int) : CR.P := .tup [.int n, .int d]
def nfr (n d : Int) : CR.P := fr (n / (Int.gcd n d : Int)) (d / (Int.gcd n d : Int))
def sp_rare : PSp := fun ps M Q => ∃ d n, ps = [.ref d, .int n] ∧ M d = some .drw ∧ (0 < n ∧ n.natAbs < 2 ^ 6000) ∧ ∀ b, Q (.bl b) M
theorem sp_rare_len : ∀ vs M Q, sp_rare vs M Q → vs.length = 2 := fun vs M Q ⟨d, x, e, _⟩ => by rw [e]; rfl
/- no _law_rare here -/
def sp_isint : PSp := fun ps M Q => ∃ p n, ps = [p] ∧ tyName M p = some n ∧ Q (.bl (n == "int")) M
theorem sp_isint_len : ∀ vs M Q, sp_isint vs M Q → vs.length = 1 := fun vs M Q ⟨d, x, e, _⟩ => by rw [e]; rfl
theorem isty_int (n : String) (h : isTy n "int" = true) : (!isTy n "bool") = (n == "int") := by
  unfold isTy at *
  rcases (Bool.or_eq_true _ _).mp h with h | h
  · have e : n = "int" := by simpa using h
    subst e; decide
  · have e : n = "bool" := by simpa using h
    subst e; decide
theorem isty_nint (n : String) (h : isTy n "int" = false) : (n == "int") = false := by
  unfold isTy at h
  exact ((Bool.or_eq_false_iff).mp h).1
abbrev s__law_is_int : Stmt := top 113
theorem sc__law_is_int : FnScope ["thing"] ["thing"] (defScope s__law_is_int) := ⟨rfl, rfl, rfl, by decide +kernel, rfl, by decide +kernel, by decide +kernel⟩
theorem c__law_is_int (F : Std K mg "_law_is_int" s__law_is_int) (B : BFree mg) : C8.Cal P w K mg base 1 "_law_is_int" (toSp K sp_isint) [] := by
  refine F.cal sc__law_is_int sp_isint_len (fun _ _ _ _ _ _ us hl => match us, hl with | [_], _ => rfl) (fun f cdv A outer s H E hr => ?_)
  have nd := sc__law_is_int.nd
  refine ⟨_, _, (qss_one (qs_ret (qe_and (qe_isiK K kit_int rfl B.f_isinstance (by decide +kernel) rfl B.f_int (by decide +kernel) (qe_var (i := 0) rfl (by first | exact .inl rfl | exact .inr (.inl rfl) | exact .inr (.inr rfl)))) (qe_one (qe_not (qe_isiK K kit_bool rfl B.f_isinstance (by decide +kernel) rfl B.f_bool (by decide +kernel) (qe_var (i := 0) rfl (by first | exact .inl rfl | exact .inr (.inl rfl) | exact .inr (.inr rfl))))))))), fun vs M Q h => ?_⟩
  obtain ⟨p, n, rfl, hp, k⟩ := h
  walk_at "s"
  rw [hp]
  refine ⟨fun h1 => ⟨M, Le.refl, ?_⟩, fun h1 => ⟨M, Le.refl, ?_⟩⟩
  · rw [isty_int n h1]; exact k
  · rw [isty_nint n h1] at k; exact k
def isI : CR.P → Bool
  | .int _ => true
  | _ => false
theorem tyName_isI {M : Mp} {x : CR.P} (h : noRef x = true) : ∃ n, tyName M x = some n ∧ (n == "int") = isI x := by
  cases x with
  | ref a => cases h
  | _ => exact ⟨_, rfl, by rfl⟩
/-- a row of ints and other scalars -/
def sp_isints : PSp := fun ps M Q => ∃ xs, ps = [.tup xs] ∧ (∀ x ∈ xs, noRef x = true) ∧ xs.length < 2 ^ 20 ∧ Q (.bl (xs.all isI)) M
theorem sp_isints_len : ∀ vs M Q, sp_isints vs M Q → vs.length = 1 := fun vs M Q ⟨d, e, _⟩ => by rw [e]; rfl
theorem sz20 {n : Nat} (h : n < 2 ^ 20) : n ≤ sizeLine := Nat.le_trans (Nat.le_of_lt h) (by decide)
abbrev s__law_is_ints : Stmt := top 114
theorem sc__law_is_ints : FnScope ["row", "part"] ["row"] (defScope s__law_is_ints) := ⟨rfl, rfl, rfl, by decide +kernel, rfl, by decide +kernel, by decide +kernel⟩
theorem c__law_is_ints (F : Std K mg "_law_is_ints" s__law_is_ints) (B : BFree mg) (c__law_is_int : C8.Cal P w K mg base 1 "_law_is_int" (toSp K sp_isint) []) : C8.Cal P w K mg base 2 "_law_is_ints" (toSp K sp_isints) [] := by
  refine F.cal sc__law_is_ints sp_isints_len (fun _ _ _ _ _ _ us hl => match us, hl with | [_], _ => rfl) (fun f cdv A outer s H E hr => ?_)
  have nd := sc__law_is_ints.nd
  refine ⟨_, _, (qss_one (qs_ret (qe_and (qe_isiK K kit_tuple rfl B.f_isinstance (by decide +kernel) rfl B.f_tuple (by decide +kernel) (qe_var (i := 0) rfl (by first | exact .inl rfl | exact .inr (.inl rfl) | exact .inr (.inr rfl)))) (qe_one (qe_callBK K ac_all (cr_all rfl) rfl B.f_all (by decide +kernel) (qa_cons (qe_lc (i := 1) rfl nd (qi_seqK K (qe_var (i := 0) rfl (by first | exact .inl rfl | exact .inr (.inl rfl) | exact .inr (.inr rfl)))) (blkOk_by (by kernel_rfl)) (fun _ _ _ _ _ => pg_name (i := 1) nd rfl (Or.inl rfl)) (fun _ _ _ _ _ => qts_nil) (fun _ _ _ _ _ => (qe_callK K c__law_is_int hr (by decide) rfl (qa_cons (qe_var (i := 1) rfl (by first | exact .inl rfl | exact .inr (.inl rfl) | exact .inr (.inr rfl))) qa_nil)))) qa_nil)))))), fun vs M Q h => ?_⟩
  obtain ⟨xs, rfl, hp, hl, k⟩ := h
  walk_at "s"
  refine ⟨fun h1 => ?_, fun h1 => absurd h1 (by decide)⟩
  refine lc_seqM (fun x => .bl (isI x)) (sz20 hl) (fun j x M' e hx l => ?_) (fun a M2 n l m => ?_)
  · walk_at "s"
    obtain ⟨n, e1, e2⟩ := tyName_isI (M := M') (hp x hx)
    exact ⟨x, n, rfl, e1, Le.refl, fun _ _ _ => tsnoc e (by rw [e2])⟩
  · have m' : M2 a = some (.lst ((xs.map isI).map CR.P.bl)) := by rw [List.map_map]; exact m
    exact all_l m' ⟨M, l, by rw [List.all_map]; exact k⟩
/-- rows of scalars: each of n -/
def sp_isrows : PSp := fun ps M Q => ∃ (xss : List (List CR.P)) (n : Int), ps = [.tup (xss.map CR.P.tup), .int n] ∧ xss.length < 2 ^ 20 ∧ Q (.bl (xss.all fun xs => decide ((xs.length : Int) = n))) M
theorem sp_isrows_len : ∀ vs M Q, sp_isrows vs M Q → vs.length = 2 := fun vs M Q ⟨d, n, e, _⟩ => by rw [e]; rfl
abbrev s__law_is_rows : Stmt := top 115
theorem sc__law_is_rows : FnScope ["rows", "size", "row"] ["rows", "size"] (defScope s__law_is_rows) := ⟨rfl, rfl, rfl, by decide +kernel, rfl, by decide +kernel, by decide +kernel⟩
theorem c__law_is_rows (F : Std K mg "_law_is_rows" s__law_is_rows) (B : BFree mg) : C8.Cal P w K mg base 1 "_law_is_rows" (toSp K sp_isrows) [] := by
  refine F.cal sc__law_is_rows sp_isrows_len (fun _ _ _ _ _ _ us hl => match us, hl with | [_, _], _ => rfl) (fun f cdv A outer s H E hr => ?_)
  have nd := sc__law_is_rows.nd
  refine ⟨_, _, (qss_cons (qs_if (qt_not (qt_val (qe_isiK K kit_tuple rfl B.f_isinstance (by decide +kernel) rfl B.f_tuple (by decide +kernel) (qe_var (i := 0) rfl (by first | exact .inl rfl | exact .inr (.inl rfl) | exact .inr (.inr rfl)))))) (qss_one (qs_ret qe_bl)) qss_nil)
      (qss_one (qs_ret (qe_callBK K ac_all (cr_all rfl) rfl B.f_all (by decide +kernel) (qa_cons (qe_lc (i := 2) rfl nd (qi_seqK K (qe_var (i := 0) rfl (by first | exact .inl rfl | exact .inr (.inl rfl) | exact .inr (.inr rfl)))) (blkOk_by (by kernel_rfl)) (fun _ _ _ _ _ => pg_name (i := 2) nd rfl (Or.inl rfl)) (fun _ _ _ _ _ => qts_nil) (fun _ _ _ _ _ => (qe_and (qe_isiK K kit_tuple rfl B.f_isinstance (by decide +kernel) rfl B.f_tuple (by decide +kernel) (qe_var (i := 2) rfl (by first | exact .inl rfl | exact .inr (.inl rfl) | exact .inr (.inr rfl)))) (qe_one (qe_eqK K hr.units (qe_callBK K ac_len call_len rfl B.f_len PySem.boot_len (qa_cons (qe_var (i := 2) rfl (by first | exact .inl rfl | exact .inr (.inl rfl) | exact .inr (.inr rfl))) qa_nil)) (qe_var (i := 1) rfl (by first | exact .inl rfl | exact .inr (.inl rfl) | exact .inr (.inr rfl))) (nomark _)))))) qa_nil))))), fun vs M Q h => ?_⟩
  obtain ⟨xss, n, rfl, hl, k⟩ := h
  walk_at "s"
  refine ⟨fun h1 => ?_, fun h1 => absurd h1 (by decide)⟩
  refine lc_seqM (fun x => match x with | .tup xs => .bl (decide ((xs.length : Int) = n)) | _ => .non) (sz20 (by rw [List.length_map]; exact hl)) (fun j x M' e hx l => ?_) (fun a M2 z l m => ?_)
  · obtain ⟨xs, hxs, rfl⟩ := List.mem_map.mp hx
    walk_at "s"
    exact ⟨fun h1 => ⟨Le.refl, fun _ _ _ => tsnoc e rfl⟩, fun h1 => absurd h1 (by decide)⟩
  · have m' : M2 a = some (.lst ((xss.map fun xs => decide ((xs.length : Int) = n)).map CR.P.bl)) := by rw [List.map_map] at m ⊢; exact m
    exact all_l m' ⟨M, l, by rw [List.all_map]; exact k⟩
def sp_gcd : PSp := fun ps M Q => ∃ n d : Int, ps = [.int n, .int d] ∧ Q (.int (Int.gcd n d : Int)) M
theorem sp_gcd_len : ∀ vs M Q, sp_gcd vs M Q → vs.length = 2 := fun vs M Q ⟨d, x, e, _⟩ => by rw [e]; rfl
theorem abs_nat (i : Int) : (if i < 0 then -i else i) = (i.natAbs : Int) := by split <;> omega
abbrev s__law_gcd : Stmt := top 116
theorem sc__law_gcd : FnScope ["left", "right", "a", "b", "c"] ["left", "right"] (defScope s__law_gcd) := ⟨rfl, rfl, rfl, by decide +kernel, rfl, by decide +kernel, by decide +kernel⟩
theorem c__law_gcd (F : Std K mg "_law_gcd" s__law_gcd) (B : BFree mg) : C8.Cal P w K mg base 1 "_law_gcd" (toSp K sp_gcd) [] := by
  refine F.cal sc__law_gcd sp_gcd_len (fun _ _ _ _ _ _ us hl => match us, hl with | [_, _], _ => rfl) (fun f cdv A outer s H E hr => ?_)
  have nd := sc__law_gcd.nd
  refine ⟨_, _, (qss_cons (qs_set (i := 2) nd rfl (by first | exact .inl rfl | exact .inr rfl) (qe_callBK K ac_abs call_abs rfl B.f_abs (by decide +kernel) (qa_cons (qe_var (i := 0) rfl (by first | exact .inl rfl | exact .inr (.inl rfl) | exact .inr (.inr rfl))) qa_nil)))
      (qss_cons (qs_set (i := 3) nd rfl (by first | exact .inl rfl | exact .inr rfl) (qe_callBK K ac_abs call_abs rfl B.f_abs (by decide +kernel) (qa_cons (qe_var (i := 1) rfl (by first | exact .inl rfl | exact .inr (.inl rfl) | exact .inr (.inr rfl))) qa_nil)))
      (qss_cons (qs_while PassesOwn.never (qt_gt (qe_var (i := 3) rfl (by first | exact .inl rfl | exact .inr (.inl rfl) | exact .inr (.inr rfl))) qe_int) (qss_cons (qs_set (i := 4) nd rfl (by first | exact .inl rfl | exact .inr rfl) (qe_mod (qe_callTyK K ac_int cr_int rfl B.f_int (by decide +kernel) (qa_cons (qe_var (i := 2) rfl (by first | exact .inl rfl | exact .inr (.inl rfl) | exact .inr (.inr rfl))) qa_nil)) (qe_var (i := 3) rfl (by first | exact .inl rfl | exact .inr (.inl rfl) | exact .inr (.inr rfl)))))
      (qss_cons (qs_set (i := 2) nd rfl (by first | exact .inl rfl | exact .inr rfl) (qe_var (i := 3) rfl (by first | exact .inl rfl | exact .inr (.inl rfl) | exact .inr (.inr rfl))))
      (qss_one (qs_set (i := 3) nd rfl (by first | exact .inl rfl | exact .inr rfl) (qe_var (i := 4) rfl (by first | exact .inl rfl | exact .inr (.inl rfl) | exact .inr (.inr rfl))))))))
      (qss_one (qs_ret (qe_var (i := 2) rfl (by first | exact .inl rfl | exact .inr (.inl rfl) | exact .inr (.inr rfl)))))))), fun vs M Q h => ?_⟩
  obtain ⟨n, d, rfl, k⟩ := h
  walk_at "s"
  dsimp only [pAbs]
  rw [abs_nat, abs_nat]
  refine ⟨fun b ρ M' => ∃ (a : Nat) (c : Option CR.P), M' = M ∧ Nat.gcd a b = Int.gcd n d ∧ ρ = [some (.int n), some (.int d), some (.int a), some (.int b), c], ⟨_, _, none, rfl, rfl, rfl⟩, ?_⟩
  rintro b ρ M' ⟨a, c, rfl, hg, rfl⟩
  walk_at "s"
  refine ⟨fun h1 => ?_, fun h1 => ?_⟩
  · have hb : (0 : Int) < b := of_decide_eq_true h1
    refine ⟨hb, (a % b : Nat), ?_, b, _, rfl, ?_, rfl⟩
    · exact Nat.mod_lt _ (by omega)
    · rw [← hg, Nat.gcd_comm a b, Nat.gcd_rec b a, Nat.gcd_comm]
  · have hb : b = 0 := by
      have := of_decide_eq_false h1
      omega
    subst hb
    rw [Nat.gcd_zero_right] at hg
    exact ⟨M', Le.refl, by rw [hg]; exact k⟩
theorem gcd_pos {n d : Int} (h : 0 < d) : (0 : Int) < (Int.gcd n d : Int) := by
  have : 0 < Int.gcd n d := Int.gcd_pos_of_ne_zero_right n (by omega)
  omega
theorem gcd_le {n d : Int} (h : 0 < d) : (Int.gcd n d : Int) ≤ d := by
  have := Int.gcd_le_right n h
  omega
theorem gcd_div {n d : Int} (h : 0 < d) (hd : d.natAbs < 2 ^ 9000) (i : Int) : CDivW i (Int.gcd n d : Int) := wide_div (b := 9000) (gcd_pos h) (by
  have h1 := gcd_le (n := n) h
  have h2 := gcd_pos (n := n) h
  omega) (by decide) (by decide)
def sp_f : PSp := fun ps M Q => ∃ n d : Int, ps = [.int n, .int d] ∧ 0 < d ∧ d.natAbs < 2 ^ 9000 ∧ Q (nfr n d) M
theorem sp_f_len : ∀ vs M Q, sp_f vs M Q → vs.length = 2 := fun vs M Q ⟨d, x, e, _⟩ => by rw [e]; rfl
abbrev s__law_f : Stmt := top 117
theorem sc__law_f : FnScope ["n", "d", "common"] ["n", "d"] (defScope s__law_f) := ⟨rfl, rfl, rfl, by decide +kernel, rfl, by decide +kernel, by decide +kernel⟩
theorem c__law_f (F : Std K mg "_law_f" s__law_f) (B : BFree mg) (c__law_gcd : C8.Cal P w K mg base 1 "_law_gcd" (toSp K sp_gcd) []) : C8.Cal P w K mg base 2 "_law_f" (toSp K sp_f) [] := by
  refine F.cal sc__law_f sp_f_len (fun _ _ _ _ _ _ us hl => match us, hl with | [_, _], _ => rfl) (fun f cdv A outer s H E hr => ?_)
  have nd := sc__law_f.nd
  refine ⟨_, _, (qss_cons (qs_set (i := 2) nd rfl (by first | exact .inl rfl | exact .inr rfl) (qe_callK K c__law_gcd hr (by decide) rfl (qa_cons (qe_var (i := 0) rfl (by first | exact .inl rfl | exact .inr (.inl rfl) | exact .inr (.inr rfl))) (qa_cons (qe_var (i := 1) rfl (by first | exact .inl rfl | exact .inr (.inl rfl) | exact .inr (.inr rfl))) qa_nil))))
      (qss_cut (qs_if (qt_lt (qe_var (i := 1) rfl (by first | exact .inl rfl | exact .inr (.inl rfl) | exact .inr (.inr rfl))) qe_int) (qss_one (qs_set (i := 2) nd rfl (by first | exact .inl rfl | exact .inr rfl) (qe_neg (qe_var (i := 2) rfl (by first | exact .inl rfl | exact .inr (.inl rfl) | exact .inr (.inr rfl)))))) qss_nil)
      (qss_one (qs_ret (qe_tup (qa_cons (qe_fdiv (qe_var (i := 0) rfl (by first | exact .inl rfl | exact .inr (.inl rfl) | exact .inr (.inr rfl))) (qe_var (i := 2) rfl (by first | exact .inl rfl | exact .inr (.inl rfl) | exact .inr (.inr rfl)))) (qa_cons (qe_fdiv (qe_var (i := 1) rfl (by first | exact .inl rfl | exact .inr (.inl rfl) | exact .inr (.inr rfl))) (qe_var (i := 2) rfl (by first | exact .inl rfl | exact .inr (.inl rfl) | exact .inr (.inr rfl)))) qa_nil))))))), fun vs M Q h => ?_⟩
  obtain ⟨n, d, rfl, h0, hd, k⟩ := h
  walk_at "s"
  refine ⟨n, d, rfl, fun ρ M' => M' = M ∧ ρ = [some (.int n), some (.int d), some (.int (Int.gcd n d : Int))], ⟨fun h1 => absurd (of_decide_eq_true h1) (by omega), fun h1 => ⟨rfl, rfl⟩⟩, ?_⟩
  rintro ρ M' ⟨rfl, rfl⟩
  walk_at "s"
  exact ⟨gcd_div h0 hd _, gcd_div h0 hd _, M', Le.refl, k⟩
abbrev s_ratio : Stmt := top 13
theorem sc_ratio : FnScope ["n", "d", "common"] ["n", "d"] (defScope s_ratio) := ⟨rfl, rfl, rfl, by decide +kernel, rfl, by decide +kernel, by decide +kernel⟩
theorem c_ratio (F : Std K mg "ratio" s_ratio) (B : BFree mg) : C8.Cal P w K mg base 1 "ratio" (toSp K sp_f) [] := by
  refine F.cal sc_ratio sp_f_len (fun _ _ _ _ _ _ us hl => match us, hl with | [_, _], _ => rfl) (fun f cdv A outer s H E hr => ?_)
  have nd := sc_ratio.nd
  refine ⟨_, _, (qss_cons (qs_if (qt_eqK K hr.units (qe_var (i := 1) rfl (by first | exact .inl rfl | exact .inr (.inl rfl) | exact .inr (.inr rfl))) qe_int (nomark _)) (qss_one qs_never) qss_nil)
      (qss_cons (qs_set (i := 2) nd rfl (by first | exact .inl rfl | exact .inr rfl) (qe_gcd rfl B.f_gcd (qa_cons (qe_var (i := 0) rfl (by first | exact .inl rfl | exact .inr (.inl rfl) | exact .inr (.inr rfl))) (qa_cons (qe_var (i := 1) rfl (by first | exact .inl rfl | exact .inr (.inl rfl) | exact .inr (.inr rfl))) qa_nil))))
      (qss_cut (qs_if (qt_lt (qe_var (i := 1) rfl (by first | exact .inl rfl | exact .inr (.inl rfl) | exact .inr (.inr rfl))) qe_int) (qss_one (qs_set (i := 2) nd rfl (by first | exact .inl rfl | exact .inr rfl) (qe_neg (qe_var (i := 2) rfl (by first | exact .inl rfl | exact .inr (.inl rfl) | exact .inr (.inr rfl)))))) qss_nil)
      (qss_one (qs_ret (qe_tup (qa_cons (qe_fdiv (qe_var (i := 0) rfl (by first | exact .inl rfl | exact .inr (.inl rfl) | exact .inr (.inr rfl))) (qe_var (i := 2) rfl (by first | exact .inl rfl | exact .inr (.inl rfl) | exact .inr (.inr rfl)))) (qa_cons (qe_fdiv (qe_var (i := 1) rfl (by first | exact .inl rfl | exact .inr (.inl rfl) | exact .inr (.inr rfl))) (qe_var (i := 2) rfl (by first | exact .inl rfl | exact .inr (.inl rfl) | exact .inr (.inr rfl)))) qa_nil)))))))), fun vs M Q h => ?_⟩
  obtain ⟨n, d, rfl, h0, hd, k⟩ := h
  walk_at "s"
  refine ⟨fun h1 => absurd (of_decide_eq_true h1) (by omega), fun h1 => ?_⟩
  dsimp only [pGcd]
  refine ⟨fun ρ M' => M' = M ∧ ρ = [some (.int n), some (.int d), some (.int (Int.gcd n d : Int))], ⟨fun h1 => absurd (of_decide_eq_true h1) (by omega), fun h1 => ⟨rfl, rfl⟩⟩, ?_⟩
  rintro ρ M' ⟨rfl, rfl⟩
  walk_at "s"
  exact ⟨gcd_div h0 hd _, gcd_div h0 hd _, M', Le.refl, k⟩
/-- a fraction in bounds -/
def FrB (n d : Int) : Prop := n.natAbs < 2 ^ 200000 ∧ 0 < d ∧ d.natAbs < 2 ^ 4000
theorem mul_lt {i j : Int} {a b : Nat} (ha : i.natAbs < 2 ^ a) (hb : j.natAbs < 2 ^ b) : (i * j).natAbs < 2 ^ (a + b) := by
  rw [Int.natAbs_mul, Nat.pow_add]
  exact Nat.mul_lt_mul'' ha hb
theorem FrB.nn {a b c e : Int} (h : FrB a b) (g : FrB c e) : CMX a c := cmx_w h.1 g.1 (by decide) (by decide) (by decide)
theorem FrB.dd {a b c e : Int} (h : FrB a b) (g : FrB c e) : CMX b e := cmx_w h.2.2 g.2.2 (by decide) (by decide) (by decide)
theorem FrB.nd {a b c e : Int} (h : FrB a b) (g : FrB c e) : CMX a e := cmx_w h.1 g.2.2 (by decide) (by decide) (by decide)
theorem FrB.dpos {a b c e : Int} (h : FrB a b) (g : FrB c e) : 0 < b * e := Int.mul_pos h.2.1 g.2.1
theorem FrB.dlt {a b c e : Int} (h : FrB a b) (g : FrB c e) : (b * e).natAbs < 2 ^ 9000 := Nat.lt_of_lt_of_le (mul_lt h.2.2 g.2.2) (Nat.pow_le_pow_right (by decide) (by decide))
def sp_times : PSp := fun ps M Q => ∃ a b c e : Int, ps = [fr a b, fr c e] ∧ FrB a b ∧ FrB c e ∧ Q (nfr (a * c) (b * e)) M
theorem sp_times_len : ∀ vs M Q, sp_times vs M Q → vs.length = 2 := fun vs M Q ⟨a, b, c, d, e, _⟩ => by rw [e]; rfl
abbrev s__law_times : Stmt := top 120
theorem sc__law_times : FnScope ["x", "y"] ["x", "y"] (defScope s__law_times) := ⟨rfl, rfl, rfl, by decide +kernel, rfl, by decide +kernel, by decide +kernel⟩
theorem c__law_times (F : Std K mg "_law_times" s__law_times) (B : BFree mg) (c__law_f : C8.Cal P w K mg base 2 "_law_f" (toSp K sp_f) []) : C8.Cal P w K mg base 3 "_law_times" (toSp K sp_times) [] := by
  refine F.cal sc__law_times sp_times_len (fun _ _ _ _ _ _ us hl => match us, hl with | [_, _], _ => rfl) (fun f cdv A outer s H E hr => ?_)
  have nd := sc__law_times.nd
  refine ⟨_, _, (qss_one (qs_ret (qe_callK K c__law_f hr (by decide) rfl (qa_cons (qe_mul (qe_ixK K (qe_var (i := 0) rfl (by first | exact .inl rfl | exact .inr (.inl rfl) | exact .inr (.inr rfl))) qe_int) (qe_ixK K (qe_var (i := 1) rfl (by first | exact .inl rfl | exact .inr (.inl rfl) | exact .inr (.inr rfl))) qe_int)) (qa_cons (qe_mul (qe_ixK K (qe_var (i := 0) rfl (by first | exact .inl rfl | exact .inr (.inl rfl) | exact .inr (.inr rfl))) qe_int) (qe_ixK K (qe_var (i := 1) rfl (by first | exact .inl rfl | exact .inr (.inl rfl) | exact .inr (.inr rfl))) qe_int)) qa_nil))))), fun vs M Q h => ?_⟩
  obtain ⟨a, b, c, e, rfl, h1, h2, k⟩ := h
  walk_at "s"
  refine i0 (i0 ⟨h1.nn h2, i1 (i1 ⟨h1.dd h2, _, _, rfl, h1.dpos h2, h1.dlt h2, M, Le.refl, k⟩)⟩)
abbrev s_times : Stmt := top 14
theorem sc_times : FnScope ["x", "y"] ["x", "y"] (defScope s_times) := ⟨rfl, rfl, rfl, by decide +kernel, rfl, by decide +kernel, by decide +kernel⟩
theorem c_times (F : Std K mg "times" s_times) (B : BFree mg) (c_ratio : C8.Cal P w K mg base 1 "ratio" (toSp K sp_f) []) : C8.Cal P w K mg base 2 "times" (toSp K sp_times) [] := by
  refine F.cal sc_times sp_times_len (fun _ _ _ _ _ _ us hl => match us, hl with | [_, _], _ => rfl) (fun f cdv A outer s H E hr => ?_)
  have nd := sc_times.nd
  refine ⟨_, _, (qss_one (qs_ret (qe_callK K c_ratio hr (by decide) rfl (qa_cons (qe_mul (qe_ixK K (qe_var (i := 0) rfl (by first | exact .inl rfl | exact .inr (.inl rfl) | exact .inr (.inr rfl))) qe_int) (qe_ixK K (qe_var (i := 1) rfl (by first | exact .inl rfl | exact .inr (.inl rfl) | exact .inr (.inr rfl))) qe_int)) (qa_cons (qe_mul (qe_ixK K (qe_var (i := 0) rfl (by first | exact .inl rfl | exact .inr (.inl rfl) | exact .inr (.inr rfl))) qe_int) (qe_ixK K (qe_var (i := 1) rfl (by first | exact .inl rfl | exact .inr (.inl rfl) | exact .inr (.inr rfl))) qe_int)) qa_nil))))), fun vs M Q h => ?_⟩
  obtain ⟨a, b, c, e, rfl, h1, h2, k⟩ := h
  walk_at "s"
  refine i0 (i0 ⟨h1.nn h2, i1 (i1 ⟨h1.dd h2, _, _, rfl, h1.dpos h2, h1.dlt h2, M, Le.refl, k⟩)⟩)
def sp_plus : PSp := fun ps M Q => ∃ a b c e : Int, ps = [fr a b, fr c e] ∧ FrB a b ∧ FrB c e ∧ Q (nfr (a * e + c * b) (b * e)) M
theorem sp_plus_len : ∀ vs M Q, sp_plus vs M Q → vs.length = 2 := fun vs M Q ⟨a, b, c, d, e, _⟩ => by rw [e]; rfl
abbrev s__law_plus : Stmt := top 118
theorem sc__law_plus : FnScope ["x", "y"] ["x", "y"] (defScope s__law_plus) := ⟨rfl, rfl, rfl, by decide +kernel, rfl, by decide +kernel, by decide +kernel⟩
theorem c__law_plus (F : Std K mg "_law_plus" s__law_plus) (B : BFree mg) (c__law_f : C8.Cal P w K mg base 2 "_law_f" (toSp K sp_f) []) : C8.Cal P w K mg base 3 "_law_plus" (toSp K sp_plus) [] := by
  refine F.cal sc__law_plus sp_plus_len (fun _ _ _ _ _ _ us hl => match us, hl with | [_, _], _ => rfl) (fun f cdv A outer s H E hr => ?_)
  have nd := sc__law_plus.nd
  refine ⟨_, _, (qss_one (qs_ret (qe_callK K c__law_f hr (by decide) rfl (qa_cons (qe_plusK K (qe_mul (qe_ixK K (qe_var (i := 0) rfl (by first | exact .inl rfl | exact .inr (.inl rfl) | exact .inr (.inr rfl))) qe_int) (qe_ixK K (qe_var (i := 1) rfl (by first | exact .inl rfl | exact .inr (.inl rfl) | exact .inr (.inr rfl))) qe_int)) (qe_mul (qe_ixK K (qe_var (i := 1) rfl (by first | exact .inl rfl | exact .inr (.inl rfl) | exact .inr (.inr rfl))) qe_int) (qe_ixK K (qe_var (i := 0) rfl (by first | exact .inl rfl | exact .inr (.inl rfl) | exact .inr (.inr rfl))) qe_int))) (qa_cons (qe_mul (qe_ixK K (qe_var (i := 0) rfl (by first | exact .inl rfl | exact .inr (.inl rfl) | exact .inr (.inr rfl))) qe_int) (qe_ixK K (qe_var (i := 1) rfl (by first | exact .inl rfl | exact .inr (.inl rfl) | exact .inr (.inr rfl))) qe_int)) qa_nil))))), fun vs M Q h => ?_⟩
  obtain ⟨a, b, c, e, rfl, h1, h2, k⟩ := h
  walk_at "s"
  refine i0 (i1 ⟨h1.nd h2, i0 (i1 ⟨h2.nd h1, ?_⟩)⟩)
  dsimp only [pCat]
  exact i1 (i1 ⟨h1.dd h2, _, _, rfl, h1.dpos h2, h1.dlt h2, M, Le.refl, k⟩)
def sp_minus : PSp := fun ps M Q => ∃ a b c e : Int, ps = [fr a b, fr c e] ∧ FrB a b ∧ FrB c e ∧ Q (nfr (a * e - c * b) (b * e)) M
theorem sp_minus_len : ∀ vs M Q, sp_minus vs M Q → vs.length = 2 := fun vs M Q ⟨a, b, c, d, e, _⟩ => by rw [e]; rfl
abbrev s__law_minus : Stmt := top 119
theorem sc__law_minus : FnScope ["x", "y"] ["x", "y"] (defScope s__law_minus) := ⟨rfl, rfl, rfl, by decide +kernel, rfl, by decide +kernel, by decide +kernel⟩
theorem c__law_minus (F : Std K mg "_law_minus" s__law_minus) (B : BFree mg) (c__law_f : C8.Cal P w K mg base 2 "_law_f" (toSp K sp_f) []) : C8.Cal P w K mg base 3 "_law_minus" (toSp K sp_minus) [] := by
  refine F.cal sc__law_minus sp_minus_len (fun _ _ _ _ _ _ us hl => match us, hl with | [_, _], _ => rfl) (fun f cdv A outer s H E hr => ?_)
  have nd := sc__law_minus.nd
  refine ⟨_, _, (qss_one (qs_ret (qe_callK K c__law_f hr (by decide) rfl (qa_cons (qe_sub (qe_mul (qe_ixK K (qe_var (i := 0) rfl (by first | exact .inl rfl | exact .inr (.inl rfl) | exact .inr (.inr rfl))) qe_int) (qe_ixK K (qe_var (i := 1) rfl (by first | exact .inl rfl | exact .inr (.inl rfl) | exact .inr (.inr rfl))) qe_int)) (qe_mul (qe_ixK K (qe_var (i := 1) rfl (by first | exact .inl rfl | exact .inr (.inl rfl) | exact .inr (.inr rfl))) qe_int) (qe_ixK K (qe_var (i := 0) rfl (by first | exact .inl rfl | exact .inr (.inl rfl) | exact .inr (.inr rfl))) qe_int))) (qa_cons (qe_mul (qe_ixK K (qe_var (i := 0) rfl (by first | exact .inl rfl | exact .inr (.inl rfl) | exact .inr (.inr rfl))) qe_int) (qe_ixK K (qe_var (i := 1) rfl (by first | exact .inl rfl | exact .inr (.inl rfl) | exact .inr (.inr rfl))) qe_int)) qa_nil))))), fun vs M Q h => ?_⟩
  obtain ⟨a, b, c, e, rfl, h1, h2, k⟩ := h
  walk_at "s"
  refine i0 (i1 ⟨h1.nd h2, i0 (i1 ⟨h2.nd h1, ?_⟩)⟩)
  exact i1 (i1 ⟨h1.dd h2, _, _, rfl, h1.dpos h2, h1.dlt h2, M, Le.refl, k⟩)
def sp_less : PSp := fun ps M Q => ∃ a b c e : Int, ps = [fr a b, fr c e] ∧ FrB a b ∧ FrB c e ∧ Q (.bl (decide (a * e < c * b))) M
theorem sp_less_len : ∀ vs M Q, sp_less vs M Q → vs.length = 2 := fun vs M Q ⟨a, b, c, d, e, _⟩ => by rw [e]; rfl
abbrev s__law_less : Stmt := top 122
theorem sc__law_less : FnScope ["x", "y"] ["x", "y"] (defScope s__law_less) := ⟨rfl, rfl, rfl, by decide +kernel, rfl, by decide +kernel, by decide +kernel⟩
theorem c__law_less (F : Std K mg "_law_less" s__law_less) (B : BFree mg) : C8.Cal P w K mg base 1 "_law_less" (toSp K sp_less) [] := by
  refine F.cal sc__law_less sp_less_len (fun _ _ _ _ _ _ us hl => match us, hl with | [_, _], _ => rfl) (fun f cdv A outer s H E hr => ?_)
  have nd := sc__law_less.nd
  refine ⟨_, _, (qss_one (qs_ret (qe_lt (qe_mul (qe_ixK K (qe_var (i := 0) rfl (by first | exact .inl rfl | exact .inr (.inl rfl) | exact .inr (.inr rfl))) qe_int) (qe_ixK K (qe_var (i := 1) rfl (by first | exact .inl rfl | exact .inr (.inl rfl) | exact .inr (.inr rfl))) qe_int)) (qe_mul (qe_ixK K (qe_var (i := 1) rfl (by first | exact .inl rfl | exact .inr (.inl rfl) | exact .inr (.inr rfl))) qe_int) (qe_ixK K (qe_var (i := 0) rfl (by first | exact .inl rfl | exact .inr (.inl rfl) | exact .inr (.inr rfl))) qe_int))))), fun vs M Q h => ?_⟩
  obtain ⟨a, b, c, e, rfl, h1, h2, k⟩ := h
  walk_at "s"
  exact i0 (i1 ⟨h1.nd h2, i0 (i1 ⟨h2.nd h1, M, Le.refl, k⟩)⟩)
abbrev s_is_below : Stmt := top 16
theorem sc_is_below : FnScope ["x", "y"] ["x", "y"] (defScope s_is_below) := ⟨rfl, rfl, rfl, by decide +kernel, rfl, by decide +kernel, by decide +kernel⟩
theorem c_is_below (F : Std K mg "is_below" s_is_below) (B : BFree mg) : C8.Cal P w K mg base 1 "is_below" (toSp K sp_less) [] := by
  refine F.cal sc_is_below sp_less_len (fun _ _ _ _ _ _ us hl => match us, hl with | [_, _], _ => rfl) (fun f cdv A outer s H E hr => ?_)
  have nd := sc_is_below.nd
  refine ⟨_, _, (qss_one (qs_ret (qe_lt (qe_mul (qe_ixK K (qe_var (i := 0) rfl (by first | exact .inl rfl | exact .inr (.inl rfl) | exact .inr (.inr rfl))) qe_int) (qe_ixK K (qe_var (i := 1) rfl (by first | exact .inl rfl | exact .inr (.inl rfl) | exact .inr (.inr rfl))) qe_int)) (qe_mul (qe_ixK K (qe_var (i := 1) rfl (by first | exact .inl rfl | exact .inr (.inl rfl) | exact .inr (.inr rfl))) qe_int) (qe_ixK K (qe_var (i := 0) rfl (by first | exact .inl rfl | exact .inr (.inl rfl) | exact .inr (.inr rfl))) qe_int))))), fun vs M Q h => ?_⟩
  obtain ⟨a, b, c, e, rfl, h1, h2, k⟩ := h
  walk_at "s"
  exact i0 (i1 ⟨h1.nd h2, i0 (i1 ⟨h2.nd h1, M, Le.refl, k⟩)⟩)
/-- the greater of two -/
def sp_great : PSp := fun ps M Q => ∃ (l : Addr) (a b c e : Int), ps = [.ref l] ∧ M l = some (.lst [fr a b, fr c e]) ∧ FrB a b ∧ FrB c e ∧ Q (if a * e < c * b then fr c e else fr a b) M
theorem sp_great_len : ∀ vs M Q, sp_great vs M Q → vs.length = 1 := fun vs M Q ⟨l, a, b, c, d, e, _⟩ => by rw [e]; rfl
abbrev s__law_great : Stmt := top 123
theorem sc__law_great : FnScope ["row", "found", "part"] ["row"] (defScope s__law_great) := ⟨rfl, rfl, rfl, by decide +kernel, rfl, by decide +kernel, by decide +kernel⟩
theorem c__law_great (F : Std K mg "_law_great" s__law_great) (B : BFree mg) (c__law_less : C8.Cal P w K mg base 1 "_law_less" (toSp K sp_less) []) : C8.Cal P w K mg base 2 "_law_great" (toSp K sp_great) [] := by
  refine F.cal sc__law_great sp_great_len (fun _ _ _ _ _ _ us hl => match us, hl with | [_], _ => rfl) (fun f cdv A outer s H E hr => ?_)
  have nd := sc__law_great.nd
  refine ⟨_, _, (qss_cons (qs_set (i := 1) nd rfl (by first | exact .inl rfl | exact .inr rfl) (qe_ixK K (qe_var (i := 0) rfl (by first | exact .inl rfl | exact .inr (.inl rfl) | exact .inr (.inr rfl))) qe_int))
      (qss_cons (qs_for PassesOwn.never rfl (qi_seqK K (qe_var (i := 0) rfl (by first | exact .inl rfl | exact .inr (.inl rfl) | exact .inr (.inr rfl)))) (qg_name (i := 2) nd rfl (by first | exact .inl rfl | exact .inr rfl)) (qss_one (qs_if (qt_val (qe_callK K c__law_less hr (by decide) rfl (qa_cons (qe_var (i := 1) rfl (by first | exact .inl rfl | exact .inr (.inl rfl) | exact .inr (.inr rfl))) (qa_cons (qe_var (i := 2) rfl (by first | exact .inl rfl | exact .inr (.inl rfl) | exact .inr (.inr rfl))) qa_nil)))) (qss_one (qs_set (i := 1) nd rfl (by first | exact .inl rfl | exact .inr rfl) (qe_var (i := 2) rfl (by first | exact .inl rfl | exact .inr (.inl rfl) | exact .inr (.inr rfl))))) qss_nil)))
      (qss_one (qs_ret (qe_var (i := 1) rfl (by first | exact .inl rfl | exact .inr (.inl rfl) | exact .inr (.inr rfl))))))), fun vs M Q h => ?_⟩
  obtain ⟨l, a, b, c, e, rfl, m, h1, h2, kQ⟩ := h
  walk_at "s"
  refine ix_l m (by decide) rfl ?_
  rw [m]
  refine for_lst (fun k ρ M' => M' = M ∧ ∃ z, ρ = [some (.ref l), some (match k with | 0 => fr a b | 1 => fr a b | _ => if a * e < c * b then fr c e else fr a b), z]) ⟨rfl, _, rfl⟩ (fun k ρ M' ⟨e, _⟩ => by rw [e]; exact m) (fun k x ρ M' ex hx ⟨eM, z, eρ⟩ => ?_) (fun ρ M' ⟨eM, z, eρ⟩ => ?_)
  · subst eM eρ
    match k, ex with
    | 0, ex =>
      cases ex
      walk_at "s"
      refine ⟨a, b, a, b, rfl, h1, h1, fun z => absurd (of_decide_eq_true z) (by omega), fun z => ⟨rfl, some (fr a b), rfl⟩⟩
    | 1, ex =>
      cases ex
      walk_at "s"
      refine ⟨a, b, c, e, rfl, h1, h2, fun z => ⟨rfl, some (fr c e), ?_⟩, fun z => ⟨rfl, some (fr c e), ?_⟩⟩
      · show _ = [_, some (if a * e < c * b then fr c e else fr a b), _]
        rw [if_pos (of_decide_eq_true z)]
      · show _ = [_, some (if a * e < c * b then fr c e else fr a b), _]
        rw [if_neg (of_decide_eq_false z)]
        rfl
  · subst eM eρ
    exact ⟨M', Le.refl, kQ⟩
def sp_isfrac : PSp := fun ps M Q => ∃ a b : Int, ps = [fr a b] ∧ Q (.bl (decide (1 ≤ b) && decide ((Int.gcd a b : Int) = 1))) M
theorem sp_isfrac_len : ∀ vs M Q, sp_isfrac vs M Q → vs.length = 1 := fun vs M Q ⟨a, b, e, _⟩ => by rw [e]; rfl
abbrev s__law_is_frac : Stmt := top 124
theorem sc__law_is_frac : FnScope ["thing"] ["thing"] (defScope s__law_is_frac) := ⟨rfl, rfl, rfl, by decide +kernel, rfl, by decide +kernel, by decide +kernel⟩
theorem c__law_is_frac (F : Std K mg "_law_is_frac" s__law_is_frac) (B : BFree mg) (c__law_gcd : C8.Cal P w K mg base 1 "_law_gcd" (toSp K sp_gcd) []) (c__law_is_int : C8.Cal P w K mg base 1 "_law_is_int" (toSp K sp_isint) []) : C8.Cal P w K mg base 2 "_law_is_frac" (toSp K sp_isfrac) [] := by
  refine F.cal sc__law_is_frac sp_isfrac_len (fun _ _ _ _ _ _ us hl => match us, hl with | [_], _ => rfl) (fun f cdv A outer s H E hr => ?_)
  have nd := sc__law_is_frac.nd
  refine ⟨_, _, (qss_cons (qs_if (QW.t (qw_or (qt_not (qt_val (qe_isiK K kit_tuple rfl B.f_isinstance (by decide +kernel) rfl B.f_tuple (by decide +kernel) (qe_var (i := 0) rfl (by first | exact .inl rfl | exact .inr (.inl rfl) | exact .inr (.inr rfl)))))) (qw_or1 (qt_neK K hr.units (qe_callBK K ac_len call_len rfl B.f_len PySem.boot_len (qa_cons (qe_var (i := 0) rfl (by first | exact .inl rfl | exact .inr (.inl rfl) | exact .inr (.inr rfl))) qa_nil)) qe_int (nomark _))))) (qss_one (qs_ret qe_bl)) qss_nil)
      (qss_cons (qs_if (QW.t (qw_or (qt_not (qt_val (qe_callK K c__law_is_int hr (by decide) rfl (qa_cons (qe_ixK K (qe_var (i := 0) rfl (by first | exact .inl rfl | exact .inr (.inl rfl) | exact .inr (.inr rfl))) qe_int) qa_nil)))) (qw_or1 (qt_not (qt_val (qe_callK K c__law_is_int hr (by decide) rfl (qa_cons (qe_ixK K (qe_var (i := 0) rfl (by first | exact .inl rfl | exact .inr (.inl rfl) | exact .inr (.inr rfl))) qe_int) qa_nil))))))) (qss_one (qs_ret qe_bl)) qss_nil)
      (qss_one (qs_ret (qe_and (qe_ge (qe_ixK K (qe_var (i := 0) rfl (by first | exact .inl rfl | exact .inr (.inl rfl) | exact .inr (.inr rfl))) qe_int) qe_int) (qe_one (qe_eqK K hr.units (qe_callK K c__law_gcd hr (by decide) rfl (qa_cons (qe_ixK K (qe_var (i := 0) rfl (by first | exact .inl rfl | exact .inr (.inl rfl) | exact .inr (.inr rfl))) qe_int) (qa_cons (qe_ixK K (qe_var (i := 0) rfl (by first | exact .inl rfl | exact .inr (.inl rfl) | exact .inr (.inr rfl))) qe_int) qa_nil))) qe_int (nomark _)))))))), fun vs M Q h => ?_⟩
  obtain ⟨a, b, rfl, k⟩ := h
  walk_at "s"
  refine ⟨fun h1 => ⟨fun h2 => (by cases h2), fun h2 => ?_⟩, fun h1 => absurd h1 (by decide)⟩
  refine i0 ⟨.int a, "int", rfl, rfl, fun h3 => i1 ⟨.int b, "int", rfl, rfl, fun h4 => ?_, fun h4 => absurd h4 (by decide)⟩, fun h3 => absurd h3 (by decide)⟩
  refine i1 ⟨fun h5 => i0 (i1 ⟨a, b, rfl, ?_⟩), fun h5 => ⟨M, Le.refl, ?_⟩⟩
  · rw [h5, Bool.true_and] at k
    exact ⟨M, Le.refl, k⟩
  · rw [h5, Bool.false_and] at k
    exact k
end
end CR

set_option Elab.async false
set_option linter.all false
set_option maxRecDepth 100000
set_option maxHeartbeats 4000000
set_option exponentiation.threshold 300000
namespace CR
open PySem PySem.Spec L2
local macro_rules | `(tactic| walk_at "s") => `(tactic| dsimp only [fRet, fSeq, fCut, fAsg, fDrop, fIfS, fNext, fBreak, fCont, fVar, fC, fOp, fCall, fCons, fNil, fCB, fBMS, fBML, fTup, fLst, fTest, fNot, fAnd, fOr, fAndV, fOrV, fNotV, fIf, fNeg, fChain, fGName, fGTup, fGCons, fGNil, fAugI, fSl, fPart, fNoPart, fRevL, fLstRg, fRepl, fFld, fSFld, fMeth, fProp, fPropSet, fMake, fMakeV, fCMeth, fGSub, fAugSub, fISeq, fIStr, fIRng1, fIRng2, fFor, fWhile, fLc, fYes, fIsi, fOf, fSeqX, fIfX, fRaise, fSetMX, fTry, fFldX, fIsX, fCMK, fMD, nth, lawS, startP, setS, clrS, wipeS, fnEnds, pI0, pI])
local macro_rules | `(tactic| walk_at "d") => `(tactic| try dsimp only)
section
variable {P : Program} {w : World} {K : PySem.W.Frag} {mg : Str → Option Value} {base : Heap}
theorem sz (n : Nat) (h : n < 2 ^ 20) : n < sizeLine := Nat.lt_of_lt_of_le h (by decide)
theorem szl (n : Nat) (h : n < 2 ^ 20) : n ≤ sizeLine := Nat.le_of_lt (sz n h)
theorem dr {d : Addr} {n : Int} {M : Mp} {Q : KE} (hd : M d = some .drw) (h0 : 0 < n) (h1 : n < 2 ^ 62) (k : ∀ r : Nat, (r : Int) < n → Q (.int r) M) : sp_draw [.ref d, .int n] M Q :=
  ⟨d, n, rfl, hd, ⟨h0, Nat.lt_of_lt_of_le (m := 2 ^ 62) (by omega) (Nat.pow_le_pow_right (by decide) (by decide))⟩, fun r h2 h3 => by
    obtain ⟨m, rfl⟩ := Int.eq_ofNat_of_zero_le h2
    exact k m h3⟩
def I (n : Nat) : CR.P := .int n
theorem nats_of : ∀ {acc : List CR.P}, (∀ y ∈ acc, ∃ n : Nat, y = .int n) → ∃ ns : List Nat, acc = ns.map I
  | [], _ => ⟨[], rfl⟩
  | x :: r, h => by
    obtain ⟨n, e⟩ := h x (List.mem_cons_self ..)
    obtain ⟨ns, e2⟩ := nats_of (acc := r) fun y hy => h y (List.mem_cons_of_mem _ hy)
    exact ⟨n :: ns, by rw [e, e2]; rfl⟩
theorem all_of {α : Type} {p : α → CR.P} {G : α → Prop} : ∀ {acc : List CR.P}, (∀ y ∈ acc, ∃ x, y = p x ∧ G x) → ∃ xs : List α, acc = xs.map p ∧ ∀ x ∈ xs, G x
  | [], _ => ⟨[], rfl, fun _ h => by cases h⟩
  | x :: r, h => by
    obtain ⟨n, e, g⟩ := h x (List.mem_cons_self ..)
    obtain ⟨ns, e2, g2⟩ := all_of (acc := r) fun y hy => h y (List.mem_cons_of_mem _ hy)
    exact ⟨n :: ns, by rw [e, e2]; rfl, fun y hy => by
      rcases List.mem_cons.mp hy with rfl | hy
      · exact g
      · exact g2 y hy⟩
theorem sum_I : ∀ (ns : List Nat), (ns.map fun n : Nat => (n : Int)).sum = (ns.sum : Nat)
  | [] => rfl
  | n :: ns => by
    have := sum_I ns
    simp only [List.map_cons, List.sum_cons]
    omega
theorem map_I (ns : List Nat) : ns.map I = (ns.map fun n : Nat => (n : Int)).map CR.P.int := by rw [List.map_map]; rfl
theorem sum_I_l {a : Addr} {ns : List Nat} {M : Mp} {Q : KE} (m : M a = some (.lst (ns.map I))) (q : Q (.int (ns.sum : Nat)) M) : pSum [.ref a] M Q := sum_l (by rw [← map_I]; exact m) (by rw [sum_I]; exact q)
theorem ixN_nat {n k : Nat} (h : k < n) : ixN n (k : Int) = some k := by
  unfold ixN
  rw [if_pos (by omega), if_pos (by omega)]
  simp
theorem sum_set {ns : List Nat} {k n : Nat} (h : k < ns.length) (hn : 0 < n) : (ns.set k n).sum ≠ 0 := by
  intro e
  have := List.sum_eq_zero_iff_forall_eq_nat.mp e n (List.mem_set h _)
  omega
def Bd (ns : List Nat) : Prop := ∀ n ∈ ns, n < 2 ^ 200
def NzB (ns : List Nat) : Prop := ns.sum ≠ 0 ∧ Bd ns
theorem Bd.set {ns : List Nat} (h : Bd ns) {k v : Nat} (hv : v < 2 ^ 200) : Bd (ns.set k v) := fun n hn => by
  rcases List.mem_or_eq_of_mem_set hn with hn | rfl
  · exact h n hn
  · exact hv
def sp_row : PSp := fun ps M Q => ∃ d many most z, ps = [.ref d, .int many, .int most, .bl z] ∧ M d = some .drw ∧ (1 ≤ many ∧ many < 2 ^ 20) ∧ (1 ≤ most ∧ most < 2 ^ 20) ∧ ∀ ns : List Nat, ns.length = many.toNat → NzB ns → Q (.tup (ns.map I)) M
theorem sp_row_len : ∀ vs M Q, sp_row vs M Q → vs.length = 4 := fun vs M Q ⟨a, b, c, d, e, _⟩ => by rw [e]; rfl
abbrev s__law_row : Stmt := top 125
theorem sc__law_row : FnScope ["d", "many", "most", "zeros", "found", "k"] ["d", "many", "most", "zeros"] (defScope s__law_row) := ⟨rfl, rfl, rfl, by decide +kernel, rfl, by decide +kernel, by decide +kernel⟩
theorem c__law_row (F : Std K mg "_law_row" s__law_row) (B : BFree mg) (c__law_draw : C8.Cal P w K mg base 1 "_law_draw" (toSp K sp_draw) []) : C8.Cal P w K mg base 2 "_law_row" (toSp K sp_row) [] := by
  refine F.cal sc__law_row sp_row_len (fun _ _ _ _ _ _ us hl => match us, hl with | [_, _, _, _], _ => rfl) (fun f cdv A outer s H E hr => ?_)
  have nd := sc__law_row.nd
  refine ⟨_, _, (qss_cons (qs_setLc (j := 4) (i := 5) rfl nd rfl rfl (sw_true rfl rfl rfl (by decide +kernel)) (qi_rng1 rfl B.f_range (qa_cons (qe_var (i := 1) rfl (by first | exact .inl rfl | exact .inr (.inl rfl) | exact .inr (.inr rfl))) qa_nil)) (blkOk_by (by kernel_rfl)) (fun _ _ _ _ _ => pg_name (i := 5) nd rfl (Or.inl rfl)) (fun _ _ _ _ _ => qts_nil) (fun _ _ _ _ _ => (qe_plusK K qe_int (qe_callK K c__law_draw hr (by decide) rfl (qa_cons (qe_var (i := 0) rfl (by first | exact .inl rfl | exact .inr (.inl rfl) | exact .inr (.inr rfl))) (qa_cons (qe_var (i := 2) rfl (by first | exact .inl rfl | exact .inr (.inl rfl) | exact .inr (.inr rfl))) qa_nil))))))
      (qss_cut (qs_if (qt_val (qe_var (i := 3) rfl (by first | exact .inl rfl | exact .inr (.inl rfl) | exact .inr (.inr rfl)))) (qss_one (qs_for PassesOwn.never rfl (qi_rng1 rfl B.f_range (qa_cons (qe_var (i := 1) rfl (by first | exact .inl rfl | exact .inr (.inl rfl) | exact .inr (.inr rfl))) qa_nil)) (qg_name (i := 5) nd rfl (by first | exact .inl rfl | exact .inr rfl)) (qss_one (qs_if (qt_eqK K hr.units (qe_callK K c__law_draw hr (by decide) rfl (qa_cons (qe_var (i := 0) rfl (by first | exact .inl rfl | exact .inr (.inl rfl) | exact .inr (.inr rfl))) (qa_cons qe_int qa_nil))) qe_int (nomark _)) (qss_one (qs_asg qe_int (qg_sub (qe_var (i := 4) rfl (by first | exact .inl rfl | exact .inr (.inl rfl) | exact .inr (.inr rfl))) (qe_var (i := 5) rfl (by first | exact .inl rfl | exact .inr (.inl rfl) | exact .inr (.inr rfl)))))) qss_nil)))) qss_nil)
      (qss_cut (qs_if (qt_eqK K hr.units (qe_callBK K ac_sum (cr_sumA rfl) rfl B.f_sum (by decide +kernel) (qa_cons (qe_var (i := 4) rfl (by first | exact .inl rfl | exact .inr (.inl rfl) | exact .inr (.inr rfl))) qa_nil)) qe_int (nomark _)) (qss_one (qs_asg qe_int (qg_sub (qe_var (i := 4) rfl (by first | exact .inl rfl | exact .inr (.inl rfl) | exact .inr (.inr rfl))) (qe_callK K c__law_draw hr (by decide) rfl (qa_cons (qe_var (i := 0) rfl (by first | exact .inl rfl | exact .inr (.inl rfl) | exact .inr (.inr rfl))) (qa_cons (qe_var (i := 1) rfl (by first | exact .inl rfl | exact .inr (.inl rfl) | exact .inr (.inr rfl))) qa_nil)))))) qss_nil)
      (qss_one (qs_ret (qe_callTyK K ac_tuple call_tuple_of rfl B.f_tuple (by decide +kernel) (qa_cons (qe_var (i := 4) rfl (by first | exact .inl rfl | exact .inr (.inl rfl) | exact .inr (.inr rfl))) qa_nil))))))), fun vs M Q h => ?_⟩
  obtain ⟨d, many, most, z, rfl, hd, hm, ho, kQ⟩ := h
  walk_at "s"
  refine ⟨⟨by omega, by omega⟩, ?_⟩
  refine lc_rng (fun y => ∃ n : Nat, y = I n ∧ n < 2 ^ 200) (szl _ (by omega)) (fun k acc M' hk l g => ?_) (fun acc a M2 g na l m => ?_)
  · walk_at "s"
    refine dr (l _ _ hd) (by omega) (by omega) (fun r h1 => ?_)
    dsimp only [pCat]
    exact ⟨Le.refl, fun _ _ _ => g.snoc ⟨1 + r, by show CR.P.int _ = CR.P.int _; congr 1, Nat.lt_of_lt_of_le (m := 2 ^ 21) (by omega) (Nat.pow_le_pow_right (by decide) (by decide))⟩⟩
  · obtain ⟨ns, rfl, hb⟩ := all_of g.2
    have hn := g.1
    rw [List.length_map] at hn
    have st : ∀ (ns : List Nat) (c : Option CR.P) (M1 M' : Mp), Le M M1 → ns.length = many.toNat → ∀ (k v : Nat), LeX a M1 M' → M' a = some (.lst ((ns.map I).set k (I v))) → ∃ ns2 : List Nat, ns2 = ns.set k v ∧ ns2.length = many.toNat ∧ Le M M' ∧ M' a = some (.lst (ns2.map I)) := fun ns c M1 M' l1 hn k v lx m => ⟨_, rfl, by rw [List.length_set]; exact hn, l1.x na lx, by rw [List.map_set]; exact m⟩
    refine ⟨fun ρ M' => ∃ (ns : List Nat) (c : Option CR.P), ρ = [some (.ref d), some (.int many), some (.int most), some (.bl z), some (.ref a), c] ∧ ns.length = many.toNat ∧ Bd ns ∧ Le M M' ∧ M' a = some (.lst (ns.map I)), ⟨fun hz => ⟨⟨by omega, by omega⟩, ?_⟩, fun hz => ⟨ns, _, rfl, hn, hb, l, m⟩⟩, ?_⟩
    · refine for_rng (fun k ρ M' => ∃ (ns : List Nat) (c : Option CR.P), ρ = [some (.ref d), some (.int many), some (.int most), some (.bl z), some (.ref a), c] ∧ ns.length = many.toNat ∧ Bd ns ∧ Le M M' ∧ M' a = some (.lst (ns.map I))) ⟨ns, _, rfl, hn, hb, l, m⟩ (fun k ρ M1 hk ⟨ns, c, eρ, hn, hb, l1, m1⟩ => ?_) (fun ρ M' h => h)
      subst eρ
      walk_at "s"
      refine dr (l1 _ _ hd) (by omega) (by omega) (fun r h1 => ⟨fun h2 => ?_, fun h2 => ⟨ns, _, rfl, hn, hb, l1, m1⟩⟩)
      rw [show (0 : Int) + k = (k : Int) by omega]
      rw [m1]
      refine ⟨k, ixN_nat (by rw [List.length_map]; omega), fun M' lx m2 => ?_⟩
      obtain ⟨ns2, e2, h3, h4, h5⟩ := st ns none M1 M' l1 hn k 0 lx m2
      exact ⟨ns2, _, rfl, h3, by rw [e2]; exact hb.set (Nat.pow_pos (by decide)), h4, h5⟩
    · rintro ρ M1 ⟨ns, c, rfl, hn, hb, l1, m1⟩
      walk_at "s"
      refine ⟨fun ρ M' => ∃ (ns : List Nat) (c : Option CR.P), ρ = [some (.ref d), some (.int many), some (.int most), some (.bl z), some (.ref a), c] ∧ ns.length = many.toNat ∧ NzB ns ∧ Le M M' ∧ M' a = some (.lst (ns.map I)), ?_, ?_⟩
      · refine sum_I_l m1 ⟨fun h2 => ?_, fun h2 => ⟨ns, c, rfl, hn, ⟨?_, hb⟩, l1, m1⟩⟩
        · refine dr (l1 _ _ hd) (by omega) (by omega) (fun r h1 => ?_)
          dsimp only
          rw [m1]
          refine ⟨r, ixN_nat (by rw [List.length_map]; omega), fun M' lx m2 => ?_⟩
          obtain ⟨ns2, e2, h3, h4, h5⟩ := st ns none M1 M' l1 hn r 1 lx m2
          exact ⟨ns2, c, rfl, h3, by rw [e2]; exact ⟨sum_set (by omega) (by decide), hb.set (Nat.lt_of_lt_of_le (m := 2 ^ 1) (by decide) (Nat.pow_le_pow_right (by decide) (by decide)))⟩, h4, h5⟩
        · have := of_decide_eq_false h2
          omega
      · rintro ρ M1 ⟨ns, c, rfl, hn, hs, l1, m1⟩
        walk_at "s"
        exact tup_l m1 ⟨M, l1, kQ ns hn hs⟩
/-- an edit: a word ahead -/
def EdOk (y : CR.P) : Prop := ∃ x r, y = .tup (.str x :: r)
def sp_edits : PSp := fun ps M Q => ∃ k : Int, ps = [.int k] ∧ (0 ≤ k ∧ k < 10) ∧ ∀ xs, xs.length ≤ 200 → (∀ y ∈ xs, EdOk y) → Q (.tup xs) M
theorem sp_edits_len : ∀ vs M Q, sp_edits vs M Q → vs.length = 1 := fun vs M Q ⟨a, e, _⟩ => by rw [e]; rfl
theorem app_ok {α : Type} {p : α → Prop} {xs ys : List α} (h : ∀ x ∈ xs, p x) (g : ∀ x ∈ ys, p x) : ∀ x ∈ xs ++ ys, p x := fun x hx => by
  rcases List.mem_append.mp hx with hx | hx
  · exact h x hx
  · exact g x hx
abbrev s__law_all_edits : Stmt := top 126
theorem sc__law_all_edits : FnScope ["kinds", "found", "k", "other"] ["kinds"] (defScope s__law_all_edits) := ⟨rfl, rfl, rfl, by decide +kernel, rfl, by decide +kernel, by decide +kernel⟩
theorem c__law_all_edits (F : Std K mg "_law_all_edits" s__law_all_edits) (B : BFree mg) : C8.Cal P w K mg base 1 "_law_all_edits" (toSp K sp_edits) [] := by
  refine F.cal sc__law_all_edits sp_edits_len (fun _ _ _ _ _ _ us hl => match us, hl with | [_], _ => rfl) (fun f cdv A outer s H E hr => ?_)
  have nd := sc__law_all_edits.nd
  refine ⟨_, _, (qss_cons (qs_set (i := 1) nd rfl (by first | exact .inl rfl | exact .inr rfl) (qe_plusK K (qe_lc (i := 2) rfl nd (qi_rng1 rfl B.f_range (qa_cons (qe_var (i := 0) rfl (by first | exact .inl rfl | exact .inr (.inl rfl) | exact .inr (.inr rfl))) qa_nil)) (blkOk_by (by kernel_rfl)) (fun _ _ _ _ _ => pg_name (i := 2) nd rfl (Or.inl rfl)) (fun _ _ _ _ _ => qts_nil) (fun _ _ _ _ _ => (qe_tup (qa_cons qe_str (qa_cons (qe_var (i := 2) rfl (by first | exact .inl rfl | exact .inr (.inl rfl) | exact .inr (.inr rfl))) qa_nil))))) (qe_lc (i := 2) rfl nd (qi_rng1 rfl B.f_range (qa_cons (qe_var (i := 0) rfl (by first | exact .inl rfl | exact .inr (.inl rfl) | exact .inr (.inr rfl))) qa_nil)) (blkOk_by (by kernel_rfl)) (fun _ _ _ _ _ => pg_name (i := 2) nd rfl (Or.inl rfl)) (fun _ _ _ _ _ => qts_nil) (fun _ _ _ _ _ => (qe_tup (qa_cons qe_str (qa_cons (qe_var (i := 2) rfl (by first | exact .inl rfl | exact .inr (.inl rfl) | exact .inr (.inr rfl))) qa_nil)))))))
      (qss_cons (qs_for PassesOwn.never rfl (qi_rng1 rfl B.f_range (qa_cons (qe_var (i := 0) rfl (by first | exact .inl rfl | exact .inr (.inl rfl) | exact .inr (.inr rfl))) qa_nil)) (qg_name (i := 2) nd rfl (by first | exact .inl rfl | exact .inr rfl)) (qss_one (qs_expr (qe_bmLK K PySem.F.plainAttrs_list PySem.F.slot_list_extend PySem.F.type_list_extend am_extend mt_extendA (qe_var (i := 1) rfl (by first | exact .inl rfl | exact .inr (.inl rfl) | exact .inr (.inr rfl))) (qa_cons (qe_lc (i := 3) rfl nd (qi_rng1 rfl B.f_range (qa_cons (qe_var (i := 0) rfl (by first | exact .inl rfl | exact .inr (.inl rfl) | exact .inr (.inr rfl))) qa_nil)) (blkOk_by (by kernel_rfl)) (fun _ _ _ _ _ => pg_name (i := 3) nd rfl (Or.inl rfl)) (fun _ _ _ _ _ => (qts_one (qt_neK K hr.units (qe_var (i := 3) rfl (by first | exact .inl rfl | exact .inr (.inl rfl) | exact .inr (.inr rfl))) (qe_var (i := 2) rfl (by first | exact .inl rfl | exact .inr (.inl rfl) | exact .inr (.inr rfl))) (nomark _)))) (fun _ _ _ _ _ => (qe_tup (qa_cons qe_str (qa_cons (qe_var (i := 2) rfl (by first | exact .inl rfl | exact .inr (.inl rfl) | exact .inr (.inr rfl))) (qa_cons (qe_var (i := 3) rfl (by first | exact .inl rfl | exact .inr (.inl rfl) | exact .inr (.inr rfl))) qa_nil)))))) qa_nil)))))
      (qss_one (qs_ret (qe_callTyK K ac_tuple call_tuple_of rfl B.f_tuple (by decide +kernel) (qa_cons (qe_var (i := 1) rfl (by first | exact .inl rfl | exact .inr (.inl rfl) | exact .inr (.inr rfl))) qa_nil)))))), fun vs M Q h => ?_⟩
  obtain ⟨n, rfl, hn, kQ⟩ := h
  walk_at "s"
  have rg : -2 ^ 62 ≤ n ∧ n < 2 ^ 62 := ⟨by omega, by omega⟩
  refine ⟨rg, lc_rng EdOk (szl _ (by omega)) (fun k acc M' hk l g => ?_) (fun xs a M2 g na l m => ?_)⟩
  · walk_at "s"
    exact ⟨Le.refl, fun _ _ _ => g.snoc ⟨_, _, rfl⟩⟩
  refine ⟨rg, lc_rng EdOk (szl _ (by omega)) (fun k acc M' hk l g => ?_) (fun ys b M3 g2 nb l2 m2 => ?_)⟩
  · walk_at "s"
    exact ⟨Le.refl, fun _ _ _ => g.snoc ⟨_, _, rfl⟩⟩
  have hx := g.1
  have hy := g2.1
  refine catL_ (l2 _ _ m) m2 (szl _ (by omega)) (fun c M4 nc l3 m3 => ⟨rg, ?_⟩)
  have Mc : M c = none := by
    cases z : M c with
    | none => rfl
    | some o => rw [l2 _ _ (l _ _ z)] at nc; cases nc
  refine for_rng (fun k ρ M' => ∃ (zs : List CR.P) (u v : Option CR.P), ρ = [some (.int n), some (.ref c), u, v] ∧ zs.length ≤ 20 + 10 * k ∧ (∀ y ∈ zs, EdOk y) ∧ Le M M' ∧ M' c = some (.lst zs)) ⟨xs ++ ys, _, _, rfl, by rw [List.length_append]; omega, app_ok g.2 g2.2, (l.trans l2).trans l3, m3⟩ (fun k ρ M5 hk ⟨zs, u, v, eρ, h1, h2, h3, h4⟩ => ?_) (fun ρ M5 ⟨zs, u, v, eρ, h1, h2, h3, h4⟩ => ?_)
  · subst eρ
    walk_at "s"
    rw [h4]
    refine ⟨rg, lc_any trivial (fun j acc => acc.length ≤ j ∧ ∀ y ∈ acc, EdOk y) ⟨Nat.le_refl _, fun y hy => by cases hy⟩ (fun j acc hj g => sz _ (by have : j < n.toNat := hj; omega)) (fun j acc M' hj l5 _ g => ?_) (fun acc e M6 g ne l6 m6 => ?_)⟩
    · walk_at "s"
      refine ⟨fun _ => ⟨Le.refl, fun _ _ _ => ?_⟩, fun _ => ⟨Le.refl, by omega, g.2⟩⟩
      exact ⟨by rw [List.length_append]; exact Nat.succ_le_succ g.1, app_ok g.2 fun y hy => by rw [List.mem_singleton.mp hy]; exact ⟨_, _, rfl⟩⟩
    · have g1 : acc.length ≤ n.toNat := g.1
      refine extL_ (l6 _ _ h4) m6 (szl _ (by omega)) (fun M7 l7 m7 => ⟨zs ++ acc, _, _, rfl, by rw [List.length_append]; omega, app_ok h2 g.2, (h3.trans l6).x Mc l7, m7⟩)
  · subst eρ
    walk_at "s"
    exact tup_l h4 ⟨M, h3, kQ zs (by omega) h2⟩
def sp_near : PSp := fun ps M Q => ∃ (d : Addr) (k : Int), ps = [.ref d, .int k] ∧ M d = some .drw ∧ (0 ≤ k ∧ k < 10) ∧ ∀ xs, xs.length ≤ 200 → (∀ y ∈ xs, EdOk y) → Q (.tup xs) M
theorem sp_near_len : ∀ vs M Q, sp_near vs M Q → vs.length = 2 := fun vs M Q ⟨a, b, e, _⟩ => by rw [e]; rfl
abbrev s__law_near : Stmt := top 127
theorem sc__law_near : FnScope ["d", "kinds", "whole", "style", "edit", "found"] ["d", "kinds"] (defScope s__law_near) := ⟨rfl, rfl, rfl, by decide +kernel, rfl, by decide +kernel, by decide +kernel⟩
theorem c__law_near (F : Std K mg "_law_near" s__law_near) (B : BFree mg) (c__law_all_edits : C8.Cal P w K mg base 1 "_law_all_edits" (toSp K sp_edits) []) (c__law_draw : C8.Cal P w K mg base 1 "_law_draw" (toSp K sp_draw) []) : C8.Cal P w K mg base 2 "_law_near" (toSp K sp_near) [] := by
  refine F.cal sc__law_near sp_near_len (fun _ _ _ _ _ _ us hl => match us, hl with | [_, _], _ => rfl) (fun f cdv A outer s H E hr => ?_)
  have nd := sc__law_near.nd
  refine ⟨_, _, (qss_cons (qs_set (i := 2) nd rfl (by first | exact .inl rfl | exact .inr rfl) (qe_callK K c__law_all_edits hr (by decide) rfl (qa_cons (qe_var (i := 1) rfl (by first | exact .inl rfl | exact .inr (.inl rfl) | exact .inr (.inr rfl))) qa_nil)))
      (qss_cons (qs_set (i := 3) nd rfl (by first | exact .inl rfl | exact .inr rfl) (qe_callK K c__law_draw hr (by decide) rfl (qa_cons (qe_var (i := 0) rfl (by first | exact .inl rfl | exact .inr (.inl rfl) | exact .inr (.inr rfl))) (qa_cons qe_int qa_nil))))
      (qss_cons (qs_if (qt_eqK K hr.units (qe_var (i := 3) rfl (by first | exact .inl rfl | exact .inr (.inl rfl) | exact .inr (.inr rfl))) qe_int (nomark _)) (qss_one (qs_ret (qe_var (i := 2) rfl (by first | exact .inl rfl | exact .inr (.inl rfl) | exact .inr (.inr rfl))))) qss_nil)
      (qss_cons (qs_if (qt_eqK K hr.units (qe_var (i := 3) rfl (by first | exact .inl rfl | exact .inr (.inl rfl) | exact .inr (.inr rfl))) qe_int (nomark _)) (qss_one (qs_ret (qe_callTyK K ac_tuple call_tuple_of rfl B.f_tuple (by decide +kernel) (qa_cons (qe_lc (i := 4) rfl nd (qi_seqK K (qe_var (i := 2) rfl (by first | exact .inl rfl | exact .inr (.inl rfl) | exact .inr (.inr rfl)))) (blkOk_by (by kernel_rfl)) (fun _ _ _ _ _ => pg_name (i := 4) nd rfl (Or.inl rfl)) (fun _ _ _ _ _ => (qts_one (qt_neK K hr.units (qe_ixK K (qe_var (i := 4) rfl (by first | exact .inl rfl | exact .inr (.inl rfl) | exact .inr (.inr rfl))) qe_int) qe_str (nomark _)))) (fun _ _ _ _ _ => (qe_var (i := 4) rfl (by first | exact .inl rfl | exact .inr (.inl rfl) | exact .inr (.inr rfl))))) qa_nil)))) qss_nil)
      (qss_cons (qs_if (qt_eqK K hr.units (qe_var (i := 3) rfl (by first | exact .inl rfl | exact .inr (.inl rfl) | exact .inr (.inr rfl))) qe_int (nomark _)) (qss_one (qs_ret (qe_callTyK K ac_tuple call_tuple_of rfl B.f_tuple (by decide +kernel) (qa_cons (qe_lc (i := 4) rfl nd (qi_seqK K (qe_var (i := 2) rfl (by first | exact .inl rfl | exact .inr (.inl rfl) | exact .inr (.inr rfl)))) (blkOk_by (by kernel_rfl)) (fun _ _ _ _ _ => pg_name (i := 4) nd rfl (Or.inl rfl)) (fun _ _ _ _ _ => (qts_one (qt_eqK K hr.units (qe_ixK K (qe_var (i := 4) rfl (by first | exact .inl rfl | exact .inr (.inl rfl) | exact .inr (.inr rfl))) qe_int) qe_str (nomark _)))) (fun _ _ _ _ _ => (qe_var (i := 4) rfl (by first | exact .inl rfl | exact .inr (.inl rfl) | exact .inr (.inr rfl))))) qa_nil)))) qss_nil)
      (qss_cons (qs_set (i := 5) nd rfl (by first | exact .inl rfl | exact .inr rfl) (qe_lst qa_nil))
      (qss_cons (qs_for PassesOwn.never rfl (qi_seqK K (qe_var (i := 2) rfl (by first | exact .inl rfl | exact .inr (.inl rfl) | exact .inr (.inr rfl)))) (qg_name (i := 4) nd rfl (by first | exact .inl rfl | exact .inr rfl)) (qss_one (qs_if (qt_lt (qe_callK K c__law_draw hr (by decide) rfl (qa_cons (qe_var (i := 0) rfl (by first | exact .inl rfl | exact .inr (.inl rfl) | exact .inr (.inr rfl))) (qa_cons qe_int qa_nil))) qe_int) (qss_one (qs_expr (qe_bmLK K PySem.F.plainAttrs_list PySem.F.slot_list_append PySem.F.type_list_append am_append mt_append (qe_var (i := 5) rfl (by first | exact .inl rfl | exact .inr (.inl rfl) | exact .inr (.inr rfl))) (qa_cons (qe_var (i := 4) rfl (by first | exact .inl rfl | exact .inr (.inl rfl) | exact .inr (.inr rfl))) qa_nil)))) qss_nil)))
      (qss_one (qs_ret (qe_callTyK K ac_tuple call_tuple_of rfl B.f_tuple (by decide +kernel) (qa_cons (qe_var (i := 5) rfl (by first | exact .inl rfl | exact .inr (.inl rfl) | exact .inr (.inr rfl))) qa_nil))))))))))), fun vs M Q h => ?_⟩
  obtain ⟨d, n, rfl, hd, hn, kQ⟩ := h
  walk_at "s"
  refine ⟨n, rfl, hn, fun xs hl hx => ?_⟩
  refine dr hd (by decide) (by decide) (fun r h1 => ⟨fun h2 => ⟨M, Le.refl, kQ xs hl hx⟩, fun h2 => ⟨fun h3 => ?_, fun h3 => ⟨fun h4 => ?_, fun h4 => ?_⟩⟩⟩)
  · refine lc_seqF EdOk (szl _ (by omega)) (fun j y acc M' e hy l g => ?_) (fun acc a M2 g na l m => ?_)
    · obtain ⟨w, rest, rfl⟩ := hx y hy
      walk_at "s"
      exact i0 ⟨fun _ => ⟨Le.refl, fun _ _ _ => g.snoc ⟨_, _, rfl⟩⟩, fun _ => ⟨Le.refl, g.skip⟩⟩
    · have := g.1
      exact tup_l m ⟨M, l, kQ acc (by omega) g.2⟩
  · refine lc_seqF EdOk (szl _ (by omega)) (fun j y acc M' e hy l g => ?_) (fun acc a M2 g na l m => ?_)
    · obtain ⟨w, rest, rfl⟩ := hx y hy
      walk_at "s"
      exact i0 ⟨fun _ => ⟨Le.refl, fun _ _ _ => g.snoc ⟨_, _, rfl⟩⟩, fun _ => ⟨Le.refl, g.skip⟩⟩
    · have := g.1
      exact tup_l m ⟨M, l, kQ acc (by omega) g.2⟩
  · intro a M1 na l m
    refine for_seq (fun k ρ M' => ∃ (zs : List CR.P) (u : Option CR.P), ρ = [some (.ref d), some (.int n), some (.tup xs), some (.int r), u, some (.ref a)] ∧ SubG EdOk k zs ∧ Le M M' ∧ M' a = some (.lst zs)) ⟨[], _, rfl, SubG.nil, l, m⟩ (fun k y ρ M5 e hy ⟨zs, u, eρ, h2, h3, h4⟩ => ?_) (fun ρ M5 ⟨zs, u, eρ, h2, h3, h4⟩ => ?_)
    · subst eρ
      have hk := (List.getElem?_eq_some_iff.mp e).1
      have hz := h2.1
      walk_at "s"
      refine dr (h3 _ _ hd) (by decide) (by decide) (fun x hx2 => ⟨fun _ => ?_, fun _ => ⟨zs, _, rfl, h2.skip, h3, h4⟩⟩)
      rw [h4]
      exact app_ h4 (sz _ (by omega)) (fun M' lx m' => ⟨_, _, rfl, h2.snoc (hx y hy), h3.x na lx, m'⟩)
    · subst eρ
      have hz := h2.1
      walk_at "s"
      exact tup_l h4 ⟨M, h3, kQ zs (by omega) h2.2⟩
def sp_table : PSp := fun ps M Q => ∃ (d : Addr) (k m : Int), ps = [.ref d, .int k, .int m] ∧ M d = some .drw ∧ (0 < k ∧ k < 100) ∧ (0 ≤ m ∧ m < 100) ∧ ∀ ns : List Nat, ns.length ≤ 100 → (∀ n ∈ ns, (n : Int) < k) → Q (.tup (ns.map I)) M
theorem sp_table_len : ∀ vs M Q, sp_table vs M Q → vs.length = 3 := fun vs M Q ⟨a, b, c, e, _⟩ => by rw [e]; rfl
abbrev s__law_table : Stmt := top 128
theorem sc__law_table : FnScope ["d", "kinds", "most", "size", "k"] ["d", "kinds", "most"] (defScope s__law_table) := ⟨rfl, rfl, rfl, by decide +kernel, rfl, by decide +kernel, by decide +kernel⟩
theorem c__law_table (F : Std K mg "_law_table" s__law_table) (B : BFree mg) (c__law_draw : C8.Cal P w K mg base 1 "_law_draw" (toSp K sp_draw) []) : C8.Cal P w K mg base 2 "_law_table" (toSp K sp_table) [] := by
  refine F.cal sc__law_table sp_table_len (fun _ _ _ _ _ _ us hl => match us, hl with | [_, _, _], _ => rfl) (fun f cdv A outer s H E hr => ?_)
  have nd := sc__law_table.nd
  refine ⟨_, _, (qss_cons (qs_set (i := 3) nd rfl (by first | exact .inl rfl | exact .inr rfl) (qe_callK K c__law_draw hr (by decide) rfl (qa_cons (qe_var (i := 0) rfl (by first | exact .inl rfl | exact .inr (.inl rfl) | exact .inr (.inr rfl))) (qa_cons (qe_plusK K (qe_var (i := 2) rfl (by first | exact .inl rfl | exact .inr (.inl rfl) | exact .inr (.inr rfl))) qe_int) qa_nil))))
      (qss_one (qs_ret (qe_callTyK K ac_tuple call_tuple_of rfl B.f_tuple (by decide +kernel) (qa_cons (qe_lc (i := 4) rfl nd (qi_rng1 rfl B.f_range (qa_cons (qe_var (i := 3) rfl (by first | exact .inl rfl | exact .inr (.inl rfl) | exact .inr (.inr rfl))) qa_nil)) (blkOk_by (by kernel_rfl)) (fun _ _ _ _ _ => pg_name (i := 4) nd rfl (Or.inl rfl)) (fun _ _ _ _ _ => qts_nil) (fun _ _ _ _ _ => (qe_callK K c__law_draw hr (by decide) rfl (qa_cons (qe_var (i := 0) rfl (by first | exact .inl rfl | exact .inr (.inl rfl) | exact .inr (.inr rfl))) (qa_cons (qe_var (i := 1) rfl (by first | exact .inl rfl | exact .inr (.inl rfl) | exact .inr (.inr rfl))) qa_nil))))) qa_nil))))), fun vs M Q h => ?_⟩
  obtain ⟨d, n, m, rfl, hd, hn, hm, kQ⟩ := h
  walk_at "s"
  dsimp only [pCat]
  refine dr hd (by omega) (by omega) (fun r h1 => ?_)
  refine ⟨⟨by omega, by omega⟩, lc_rng (fun y => ∃ x : Nat, y = I x ∧ (x : Int) < n) (szl _ (by omega)) (fun k acc M' hk l g => ?_) (fun xs a M2 g na l m => ?_)⟩
  · walk_at "s"
    exact dr (l _ _ hd) (by omega) (by omega) (fun x h1 => ⟨Le.refl, fun _ _ _ => g.snoc ⟨x, rfl, h1⟩⟩)
  · obtain ⟨ns, rfl, h2⟩ := all_of g.2
    have h3 := g.1
    rw [List.length_map] at h3
    exact tup_l m ⟨M, l, kQ ns (by omega) h2⟩
end
end CR

set_option Elab.async false
set_option linter.all false
set_option maxRecDepth 100000
set_option maxHeartbeats 4000000
set_option exponentiation.threshold 300000
namespace CR
open PySem PySem.Spec L2
local macro_rules | `(tactic| walk_at "s") => `(tactic| dsimp only [fRet, fSeq, fCut, fAsg, fDrop, fIfS, fNext, fBreak, fCont, fVar, fC, fOp, fCall, fCons, fNil, fCB, fBMS, fBML, fTup, fLst, fTest, fNot, fAnd, fOr, fAndV, fOrV, fNotV, fIf, fNeg, fChain, fGName, fGTup, fGCons, fGNil, fAugI, fSl, fPart, fNoPart, fRevL, fLstRg, fRepl, fFld, fSFld, fMeth, fProp, fPropSet, fMake, fMakeV, fCMeth, fGSub, fAugSub, fISeq, fIStr, fIRng1, fIRng2, fFor, fWhile, fLc, fYes, fIsi, fOf, fSeqX, fIfX, fRaise, fSetMX, fTry, fFldX, fIsX, fCMK, fMD, nth, lawS, startP, setS, clrS, wipeS, fnEnds, pI0, pI])
local macro_rules | `(tactic| walk_at "d") => `(tactic| try dsimp only)
section
variable {P : Program} {w : World} {K : PySem.W.Frag} {mg : Str → Option Value} {base : Heap}
/-- rows of a reader -/
def RdOk (k s : Nat) (rs : List (List Nat)) : Prop := rs.length = s ∧ ∀ r ∈ rs, r.length = k ∧ ∀ n ∈ r, n < s
def It (ns : List Nat) : CR.P := .tup (ns.map I)
def sp_reader : PSp := fun ps M Q => ∃ (d : Addr) (k s : Int), ps = [.ref d, .int k, .int s] ∧ M d = some .drw ∧ (0 < k ∧ k < 10) ∧ (0 < s ∧ s < 10) ∧ ∀ rs, RdOk k.toNat s.toNat rs → Q (.tup [.str "reader", .tup (rs.map It)]) M
theorem sp_reader_len : ∀ vs M Q, sp_reader vs M Q → vs.length = 3 := fun vs M Q ⟨a, b, c, e, _⟩ => by rw [e]; rfl
/-- rows as lists -/
def RL (D : Addr) (k s : Nat) (M0 M : Mp) (y : CR.P) : Prop := ∃ (b : Addr) (ns : List Nat), y = .ref b ∧ b ≠ D ∧ M0 b = none ∧ M b = some (.lst (ns.map I)) ∧ ns.length = k ∧ ∀ n ∈ ns, n < s
def derefT (M : Mp) : CR.P → CR.P
  | .ref b => (match M b with
    | some (.lst xs) => .tup xs
    | _ => .non)
  | _ => .non
theorem derefT_of {M : Mp} {b : Addr} {xs : List CR.P} (m : M b = some (.lst xs)) : derefT M (.ref b) = .tup xs := by
  show (match M b with | some (.lst xs) => CR.P.tup xs | _ => .non) = _
  rw [m]
abbrev s__law_reader : Stmt := top 129
theorem sc__law_reader : FnScope ["d", "kinds", "states", "rows", "k", "s", "t", "row"] ["d", "kinds", "states"] (defScope s__law_reader) := ⟨rfl, rfl, rfl, by decide +kernel, rfl, by decide +kernel, by decide +kernel⟩
theorem c__law_reader (F : Std K mg "_law_reader" s__law_reader) (B : BFree mg) (c__law_draw : C8.Cal P w K mg base 1 "_law_draw" (toSp K sp_draw) []) : C8.Cal P w K mg base 2 "_law_reader" (toSp K sp_reader) [] := by
  refine F.cal sc__law_reader sp_reader_len (fun _ _ _ _ _ _ us hl => match us, hl with | [_, _, _], _ => rfl) (fun f cdv A outer s H E hr => ?_)
  have nd := sc__law_reader.nd
  refine ⟨_, _, (qss_cons (qs_setLc (j := 3) (i := 5) rfl nd rfl rfl (sw_true rfl rfl rfl (by decide +kernel)) (qi_rng1 rfl B.f_range (qa_cons (qe_var (i := 2) rfl (by first | exact .inl rfl | exact .inr (.inl rfl) | exact .inr (.inr rfl))) qa_nil)) (blkOk_by (by kernel_rfl)) (fun _ _ _ _ _ => pg_name (i := 5) nd rfl (Or.inl rfl)) (fun _ _ _ _ _ => qts_nil) (fun _ _ _ _ _ => (qe_lc (i := 4) rfl nd (qi_rng1 rfl B.f_range (qa_cons (qe_var (i := 1) rfl (by first | exact .inl rfl | exact .inr (.inl rfl) | exact .inr (.inr rfl))) qa_nil)) (blkOk_by (by kernel_rfl)) (fun _ _ _ _ _ => pg_name (i := 4) nd rfl (Or.inl rfl)) (fun _ _ _ _ _ => qts_nil) (fun _ _ _ _ _ => (qe_callK K c__law_draw hr (by decide) rfl (qa_cons (qe_var (i := 0) rfl (by first | exact .inl rfl | exact .inr (.inl rfl) | exact .inr (.inr rfl))) (qa_cons (qe_var (i := 2) rfl (by first | exact .inl rfl | exact .inr (.inl rfl) | exact .inr (.inr rfl))) qa_nil)))))))
      (qss_cons (qs_for PassesOwn.never rfl (qi_rng2 rfl B.f_range (qa_cons qe_int (qa_cons (qe_var (i := 2) rfl (by first | exact .inl rfl | exact .inr (.inl rfl) | exact .inr (.inr rfl))) qa_nil))) (qg_name (i := 5) nd rfl (by first | exact .inl rfl | exact .inr rfl)) (qss_cons (qs_set (i := 6) nd rfl (by first | exact .inl rfl | exact .inr rfl) (qe_callK K c__law_draw hr (by decide) rfl (qa_cons (qe_var (i := 0) rfl (by first | exact .inl rfl | exact .inr (.inl rfl) | exact .inr (.inr rfl))) (qa_cons (qe_var (i := 5) rfl (by first | exact .inl rfl | exact .inr (.inl rfl) | exact .inr (.inr rfl))) qa_nil))))
      (qss_one (qs_asg (qe_var (i := 5) rfl (by first | exact .inl rfl | exact .inr (.inl rfl) | exact .inr (.inr rfl))) (qg_sub (qe_ixK K (qe_var (i := 3) rfl (by first | exact .inl rfl | exact .inr (.inl rfl) | exact .inr (.inr rfl))) (qe_var (i := 6) rfl (by first | exact .inl rfl | exact .inr (.inl rfl) | exact .inr (.inr rfl)))) (qe_callK K c__law_draw hr (by decide) rfl (qa_cons (qe_var (i := 0) rfl (by first | exact .inl rfl | exact .inr (.inl rfl) | exact .inr (.inr rfl))) (qa_cons (qe_var (i := 1) rfl (by first | exact .inl rfl | exact .inr (.inl rfl) | exact .inr (.inr rfl))) qa_nil))))))))
      (qss_one (qs_ret (qe_tup (qa_cons qe_str (qa_cons (qe_callTyK K ac_tuple call_tuple_of rfl B.f_tuple (by decide +kernel) (qa_cons (qe_lc (i := 7) rfl nd (qi_seqK K (qe_var (i := 3) rfl (by first | exact .inl rfl | exact .inr (.inl rfl) | exact .inr (.inr rfl)))) (blkOk_by (by kernel_rfl)) (fun _ _ _ _ _ => pg_name (i := 7) nd rfl (Or.inl rfl)) (fun _ _ _ _ _ => qts_nil) (fun _ _ _ _ _ => (qe_callTyK K ac_tuple call_tuple_of rfl B.f_tuple (by decide +kernel) (qa_cons (qe_var (i := 7) rfl (by first | exact .inl rfl | exact .inr (.inl rfl) | exact .inr (.inr rfl))) qa_nil)))) qa_nil)) qa_nil))))))), fun vs M Q h => ?_⟩
  obtain ⟨d, k, s, rfl, hd, hk, hs, kQ⟩ := h
  walk_at "s"
  have rk : -2 ^ 62 ≤ k ∧ k < 2 ^ 62 := ⟨by omega, by omega⟩
  have rs : -2 ^ 62 ≤ s ∧ s < 2 ^ 62 := ⟨by omega, by omega⟩
  refine ⟨rs, fun D nD => ⟨fun j acc M' => acc.length = j ∧ ∀ y ∈ acc, RL D k.toNat s.toNat M M' y, fun M' l m => ⟨rfl, fun y hy => by cases hy⟩, fun j acc M' hj l mD g => ⟨?_, ?_⟩, fun acc M1 l1 mD g => ?_⟩⟩
  · have hj' : j < s.toNat := hj
    have := g.1
    exact sz _ (by omega)
  · walk_at "s"
    refine ⟨rk, lc_rng (fun y => ∃ n : Nat, y = I n ∧ n < s.toNat) (szl _ (by omega)) (fun i xs M3 hi l3 g3 => ?_) (fun xs b M3 g3 nb l3 m3 => ⟨l3, fun M4 lx mD4 => ⟨by rw [List.length_append, g.1]; rfl, ?_⟩⟩)⟩
    · walk_at "s"
      exact dr (l3 _ _ (l _ _ hd)) (by omega) (by omega) (fun x h1 => ⟨Le.refl, fun _ _ _ => g3.snoc ⟨x, rfl, by omega⟩⟩)
    · obtain ⟨ns, rfl, h2⟩ := all_of g3.2
      have h3 := g3.1
      rw [List.length_map] at h3
      intro y hy
      rcases List.mem_append.mp hy with hy | hy
      · obtain ⟨b', ns', rfl, n1, n2, n3, n4⟩ := g.2 y hy
        exact ⟨b', ns', rfl, n1, n2, lx _ _ n1 (l3 _ _ n3), n4⟩
      · rw [List.mem_singleton.mp hy]
        have bD : b ≠ D := fun e => by rw [e, mD] at nb; cases nb
        exact ⟨b, ns, rfl, bD, l.none nb, lx _ _ bD m3, h3, h2⟩
  refine ⟨⟨by decide, by decide, rs.1, rs.2⟩, for_rng (fun j ρ M' => ∃ u v, ρ = [some (.ref d), some (.int k), some (.int s), some (.ref D), none, u, v, none] ∧ Le M M' ∧ M' D = some (.lst acc) ∧ ∀ y ∈ acc, RL D k.toNat s.toNat M M' y) ⟨none, none, rfl, l1, mD, g.2⟩ (fun j ρ M' hj ⟨u, v, eρ, h1, h2, h3⟩ => ?_) (fun ρ M' ⟨u, v, eρ, h1, h2, h3⟩ => ?_)⟩
  · subst eρ
    have ga : acc.length = s.toNat := g.1
    walk_at "s"
    refine dr (h1 _ _ hd) (by omega) (by omega) (fun r hr1 => ?_)
    obtain ⟨y, e, hy⟩ := mem_get (xs := acc) (i := r) (by omega)
    refine ix_l h2 (by omega) (y := y) (by rw [Int.toNat_natCast]; exact e) ?_
    obtain ⟨b, ns, rfl, n1, n2, n3, n4, n5⟩ := h3 y hy
    refine dr (h1 _ _ hd) (by omega) (by omega) (fun x hx => ?_)
    walk_at "d"
    rw [n3]
    refine ⟨x, ixN_nat (by rw [List.length_map]; omega), fun M5 lx m5 => ⟨_, _, rfl, h1.x n2 lx, lx _ _ (fun e => n1 e.symm) h2, fun y hy => ?_⟩⟩
    obtain ⟨b', ns', rfl, q1, q2, q3, q4, q5⟩ := h3 y hy
    by_cases eb : b' = b
    · subst eb
      have e1 : (1 : Int) + j = ((1 + j : Nat) : Int) := by omega
      rw [e1, show CR.P.int ((1 + j : Nat) : Int) = I (1 + j) from rfl, ← List.map_set] at m5
      refine ⟨b', ns.set x (1 + j), rfl, q1, q2, m5, by rw [List.length_set]; exact n4, fun n hn => ?_⟩
      rcases List.mem_or_eq_of_mem_set hn with hn | rfl
      · exact n5 n hn
      · omega
    · exact ⟨b', ns', rfl, q1, q2, lx _ _ eb q3, q4, q5⟩
  · subst eρ
    have ga : acc.length = s.toNat := g.1
    walk_at "s"
    rw [h2]
    refine lc_lstM h2 (derefT M') (szl _ (by omega)) (fun j y M3 e hy l3 => ?_) (fun a M3 na l3 m3 => ?_)
    · obtain ⟨b, ns, rfl, n1, n2, n3, n4⟩ := h3 y hy
      walk_at "s"
      exact tup_l (l3 _ _ n3) ⟨Le.refl, fun _ _ _ => tsnoc e (by rw [derefT_of n3])⟩
    · refine tup_l m3 ?_
      have ex : ∀ y ∈ acc.map (derefT M'), ∃ r : List Nat, y = It r ∧ (r.length = k.toNat ∧ ∀ n ∈ r, n < s.toNat) := fun y hy => by
        obtain ⟨z, hz, rfl⟩ := List.mem_map.mp hy
        obtain ⟨b, ns, rfl, n1, n2, n3, n4⟩ := h3 z hz
        exact ⟨ns, derefT_of n3, n4⟩
      obtain ⟨rr, e1, e2⟩ := all_of ex
      rw [e1]
      have e3 := congrArg List.length e1
      rw [List.length_map, List.length_map] at e3
      exact ⟨M, h1.trans l3, kQ rr ⟨by omega, e2⟩⟩
theorem I_of {i : Int} (h : 0 ≤ i) : CR.P.int i = I i.toNat := by
  show _ = CR.P.int (i.toNat : Int)
  rw [Int.toNat_of_nonneg h]
/-- where the answers go -/
def Gs (gs : List (Nat × Nat)) : CR.P := .tup (gs.map fun g => .tup [I g.1, I g.2])
def GoOk (modes : Nat) (g : Nat × Nat) : Prop := g.1 < modes ∧ g.2 ≤ 1
def sp_goes : PSp := fun ps M Q => ∃ (d : Addr) (many mode modes style : Int), ps = [.ref d, .int many, .int mode, .int modes, .int style] ∧ M d = some .drw ∧ (0 < many ∧ many < 100) ∧ (0 ≤ mode ∧ mode < 100) ∧ (0 < modes ∧ modes < 100) ∧
  ∀ gs : List (Nat × Nat), gs.length = many.toNat → (∀ g ∈ gs, GoOk modes.toNat g) → Q (Gs gs) M
theorem sp_goes_len : ∀ vs M Q, sp_goes vs M Q → vs.length = 5 := fun vs M Q ⟨a, b, c, d, e, e', _⟩ => by rw [e']; rfl
abbrev s__law_goes : Stmt := top 131
theorem sc__law_goes : FnScope ["d", "many", "mode", "modes", "style", "found", "k"] ["d", "many", "mode", "modes", "style"] (defScope s__law_goes) := ⟨rfl, rfl, rfl, by decide +kernel, rfl, by decide +kernel, by decide +kernel⟩
theorem c__law_goes (F : Std K mg "_law_goes" s__law_goes) (B : BFree mg) (c__law_draw : C8.Cal P w K mg base 1 "_law_draw" (toSp K sp_draw) []) : C8.Cal P w K mg base 2 "_law_goes" (toSp K sp_goes) [] := by
  refine F.cal sc__law_goes sp_goes_len (fun _ _ _ _ _ _ us hl => match us, hl with | [_, _, _, _, _], _ => rfl) (fun f cdv A outer s H E hr => ?_)
  have nd := sc__law_goes.nd
  refine ⟨_, _, (qss_cons (qs_set (i := 5) nd rfl (by first | exact .inl rfl | exact .inr rfl) (qe_lst qa_nil))
      (qss_cons (qs_for PassesOwn.never rfl (qi_rng1 rfl B.f_range (qa_cons (qe_var (i := 1) rfl (by first | exact .inl rfl | exact .inr (.inl rfl) | exact .inr (.inr rfl))) qa_nil)) (qg_name (i := 6) nd rfl (by first | exact .inl rfl | exact .inr rfl)) (qss_one (qs_if (qt_eqK K hr.units (qe_var (i := 4) rfl (by first | exact .inl rfl | exact .inr (.inl rfl) | exact .inr (.inr rfl))) qe_int (nomark _)) (qss_one (qs_expr (qe_bmLK K PySem.F.plainAttrs_list PySem.F.slot_list_append PySem.F.type_list_append am_append mt_append (qe_var (i := 5) rfl (by first | exact .inl rfl | exact .inr (.inl rfl) | exact .inr (.inr rfl))) (qa_cons (qe_tup (qa_cons (qe_callBK K ac_min2 (call_min2 rfl) rfl B.f_min (by decide +kernel) (qa_cons (qe_sub (qe_var (i := 3) rfl (by first | exact .inl rfl | exact .inr (.inl rfl) | exact .inr (.inr rfl))) qe_int) (qa_cons (qe_plusK K (qe_plusK K (qe_var (i := 2) rfl (by first | exact .inl rfl | exact .inr (.inl rfl) | exact .inr (.inr rfl))) qe_int) (qe_callK K c__law_draw hr (by decide) rfl (qa_cons (qe_var (i := 0) rfl (by first | exact .inl rfl | exact .inr (.inl rfl) | exact .inr (.inr rfl))) (qa_cons qe_int qa_nil)))) qa_nil))) (qa_cons qe_int qa_nil))) qa_nil)))) (qss_one (qs_expr (qe_bmLK K PySem.F.plainAttrs_list PySem.F.slot_list_append PySem.F.type_list_append am_append mt_append (qe_var (i := 5) rfl (by first | exact .inl rfl | exact .inr (.inl rfl) | exact .inr (.inr rfl))) (qa_cons (qe_tup (qa_cons (qe_callK K c__law_draw hr (by decide) rfl (qa_cons (qe_var (i := 0) rfl (by first | exact .inl rfl | exact .inr (.inl rfl) | exact .inr (.inr rfl))) (qa_cons (qe_var (i := 3) rfl (by first | exact .inl rfl | exact .inr (.inl rfl) | exact .inr (.inr rfl))) qa_nil))) (qa_cons (qe_callTyK K ac_int cr_int rfl B.f_int (by decide +kernel) (qa_cons (qe_eqK K hr.units (qe_callK K c__law_draw hr (by decide) rfl (qa_cons (qe_var (i := 0) rfl (by first | exact .inl rfl | exact .inr (.inl rfl) | exact .inr (.inr rfl))) (qa_cons qe_int qa_nil))) qe_int (nomark _)) qa_nil)) qa_nil))) qa_nil)))))))
      (qss_one (qs_ret (qe_callTyK K ac_tuple call_tuple_of rfl B.f_tuple (by decide +kernel) (qa_cons (qe_var (i := 5) rfl (by first | exact .inl rfl | exact .inr (.inl rfl) | exact .inr (.inr rfl))) qa_nil)))))), fun vs M Q h => ?_⟩
  obtain ⟨d, many, mode, modes, style, rfl, hd, hn, hm, hs, kQ⟩ := h
  walk_at "s"
  intro a M1 na l m
  refine ⟨⟨by omega, by omega⟩, for_rng (fun k ρ M' => ∃ (gs : List (Nat × Nat)) (u : Option CR.P), ρ = [some (.ref d), some (.int many), some (.int mode), some (.int modes), some (.int style), some (.ref a), u] ∧ gs.length = k ∧ (∀ g ∈ gs, GoOk modes.toNat g) ∧ Le M M' ∧ M' a = some (.lst (gs.map fun g => .tup [I g.1, I g.2]))) ⟨[], _, rfl, rfl, fun _ h => (by cases h), l, m⟩ (fun k ρ M5 hk ⟨gs, u, eρ, h1, h2, h3, h4⟩ => ?_) (fun ρ M5 ⟨gs, u, eρ, h1, h2, h3, h4⟩ => ?_)⟩
  · subst eρ
    walk_at "s"
    have fin : ∀ (x y : Nat), GoOk modes.toNat (x, y) → ∀ M', LeX a M5 M' → M' a = some (.lst (gs.map (fun g => CR.P.tup [I g.1, I g.2]) ++ [.tup [I x, I y]])) → ∃ (gs : List (Nat × Nat)) (u : Option CR.P), [some (.ref d), some (.int many), some (.int mode), some (.int modes), some (.int style), some (.ref a), some (.int (0 + (k : Int)))] = [some (CR.P.ref d), some (.int many), some (.int mode), some (.int modes), some (.int style), some (.ref a), u] ∧ gs.length = k + 1 ∧ (∀ g ∈ gs, GoOk modes.toNat g) ∧ Le M M' ∧ M' a = some (.lst (gs.map fun g => .tup [I g.1, I g.2])) := fun x y hg M' lx m' =>
      ⟨gs ++ [(x, y)], _, rfl, by rw [List.length_append, h1]; rfl, app_ok h2 fun g hg2 => by rw [List.mem_singleton.mp hg2]; exact hg, h3.x na lx, by rw [List.map_append]; exact m'⟩
    have hlen : (gs.map (fun g => CR.P.tup [I g.1, I g.2])).length < 2 ^ 20 := by rw [List.length_map]; omega
    refine ⟨fun h5 => ?_, fun h5 => ?_⟩
    · rw [h4]
      walk_at "d"
      dsimp only [pCat]
      refine dr (h3 _ _ hd) (by decide) (by decide) (fun r hr1 => ?_)
      dsimp only [pMin2]
      have e0 : ∀ i : Int, 0 ≤ i → i < modes → (pAppend (.ref a) [.tup [.int i, .int 0]] M5 fun x M1 => ∃ (gs : List (Nat × Nat)) (u : Option CR.P), [some (.ref d), some (.int many), some (.int mode), some (.int modes), some (.int style), some (.ref a), some (.int (0 + (k : Int)))] = [some (CR.P.ref d), some (.int many), some (.int mode), some (.int modes), some (.int style), some (.ref a), u] ∧ gs.length = k + 1 ∧ (∀ g ∈ gs, GoOk modes.toNat g) ∧ Le M M1 ∧ M1 a = some (.lst (gs.map fun g => .tup [I g.1, I g.2]))) := fun i h0 h1 => by
        rw [I_of h0]
        exact app_ h4 (sz _ hlen) (fun M' lx m' => fin i.toNat 0 ⟨by omega, by simp⟩ M' lx m')
      refine e0 _ ?_ ?_
      · split <;> omega
      · split <;> omega
    · rw [h4]
      walk_at "d"
      refine dr (h3 _ _ hd) (by omega) (by omega) (fun r hr1 => ?_)
      refine dr (h3 _ _ hd) (by decide) (by decide) (fun x hx => ?_)
      dsimp only [pInt, pEqX]
      cases decide ((x : Int) = 1) with
      | true => exact app_ h4 (sz _ hlen) (fun M' lx m' => fin r 1 ⟨by omega, by simp⟩ M' lx m')
      | false => exact app_ h4 (sz _ hlen) (fun M' lx m' => fin r 0 ⟨by omega, by simp⟩ M' lx m')
  · subst eρ
    walk_at "s"
    exact tup_l h4 ⟨M, h3, kQ gs h1 h2⟩
/-- the rows of a question -/
def RwOk (many states : Nat) (rs : List (List Nat)) : Prop := rs.length = states ∧ ∀ r ∈ rs, r.length = many ∧ NzB r
def Rs (rs : List (List Nat)) : CR.P := .tup (rs.map It)
def sp_shown : PSp := fun ps M Q => ∃ (d : Addr) (states many : Int) (z alike : Bool), ps = [.ref d, .int states, .int many, .bl z, .bl alike] ∧ M d = some .drw ∧ (0 < states ∧ states < 100) ∧ (0 < many ∧ many < 100) ∧ ∀ rs, RwOk many.toNat states.toNat rs → Q (Rs rs) M
theorem sp_shown_len : ∀ vs M Q, sp_shown vs M Q → vs.length = 5 := fun vs M Q ⟨a, b, c, d, e, e', _⟩ => by rw [e']; rfl
abbrev s__law_shown : Stmt := top 132
theorem sc__law_shown : FnScope ["d", "states", "many", "zeros", "alike", "line", "s"] ["d", "states", "many", "zeros", "alike"] (defScope s__law_shown) := ⟨rfl, rfl, rfl, by decide +kernel, rfl, by decide +kernel, by decide +kernel⟩
theorem c__law_shown (F : Std K mg "_law_shown" s__law_shown) (B : BFree mg) (c__law_row : C8.Cal P w K mg base 2 "_law_row" (toSp K sp_row) []) : C8.Cal P w K mg base 3 "_law_shown" (toSp K sp_shown) [] := by
  refine F.cal sc__law_shown sp_shown_len (fun _ _ _ _ _ _ us hl => match us, hl with | [_, _, _, _, _], _ => rfl) (fun f cdv A outer s H E hr => ?_)
  have nd := sc__law_shown.nd
  refine ⟨_, _, (qss_cons (qs_set (i := 5) nd rfl (by first | exact .inl rfl | exact .inr rfl) (qe_callK K c__law_row hr (by decide) rfl (qa_cons (qe_var (i := 0) rfl (by first | exact .inl rfl | exact .inr (.inl rfl) | exact .inr (.inr rfl))) (qa_cons (qe_var (i := 2) rfl (by first | exact .inl rfl | exact .inr (.inl rfl) | exact .inr (.inr rfl))) (qa_cons qe_int (qa_cons (qe_var (i := 3) rfl (by first | exact .inl rfl | exact .inr (.inl rfl) | exact .inr (.inr rfl))) qa_nil))))))
      (qss_cons (qs_if (qt_val (qe_var (i := 4) rfl (by first | exact .inl rfl | exact .inr (.inl rfl) | exact .inr (.inr rfl)))) (qss_one (qs_ret (qe_callTyK K ac_tuple call_tuple_of rfl B.f_tuple (by decide +kernel) (qa_cons (qe_lc (i := 6) rfl nd (qi_rng1 rfl B.f_range (qa_cons (qe_var (i := 1) rfl (by first | exact .inl rfl | exact .inr (.inl rfl) | exact .inr (.inr rfl))) qa_nil)) (blkOk_by (by kernel_rfl)) (fun _ _ _ _ _ => pg_name (i := 6) nd rfl (Or.inl rfl)) (fun _ _ _ _ _ => qts_nil) (fun _ _ _ _ _ => (qe_var (i := 5) rfl (by first | exact .inl rfl | exact .inr (.inl rfl) | exact .inr (.inr rfl))))) qa_nil)))) qss_nil)
      (qss_one (qs_ret (qe_callTyK K ac_tuple call_tuple_of rfl B.f_tuple (by decide +kernel) (qa_cons (qe_lc (i := 6) rfl nd (qi_rng1 rfl B.f_range (qa_cons (qe_var (i := 1) rfl (by first | exact .inl rfl | exact .inr (.inl rfl) | exact .inr (.inr rfl))) qa_nil)) (blkOk_by (by kernel_rfl)) (fun _ _ _ _ _ => pg_name (i := 6) nd rfl (Or.inl rfl)) (fun _ _ _ _ _ => qts_nil) (fun _ _ _ _ _ => (qe_callK K c__law_row hr (by decide) rfl (qa_cons (qe_var (i := 0) rfl (by first | exact .inl rfl | exact .inr (.inl rfl) | exact .inr (.inr rfl))) (qa_cons (qe_var (i := 2) rfl (by first | exact .inl rfl | exact .inr (.inl rfl) | exact .inr (.inr rfl))) (qa_cons qe_int (qa_cons (qe_var (i := 3) rfl (by first | exact .inl rfl | exact .inr (.inl rfl) | exact .inr (.inr rfl))) qa_nil))))))) qa_nil)))))), fun vs M Q h => ?_⟩
  obtain ⟨d, states, many, z, alike, rfl, hd, hs, hm, kQ⟩ := h
  walk_at "s"
  refine ⟨d, many, 6, z, rfl, hd, ⟨by omega, by omega⟩, by decide, fun ns h1 h2 => ⟨fun h3 => ?_, fun h3 => ?_⟩⟩
  · refine ⟨⟨by omega, by omega⟩, lc_rng (fun y => ∃ r, y = It r ∧ (r.length = many.toNat ∧ NzB r)) (szl _ (by omega)) (fun k acc M' hk l g => ?_) (fun acc a M2 g na l m => ?_)⟩
    · walk_at "s"
      exact ⟨Le.refl, fun _ _ _ => g.snoc ⟨ns, rfl, h1, h2⟩⟩
    · obtain ⟨rs, rfl, g2⟩ := all_of g.2
      have g1 := g.1
      rw [List.length_map] at g1
      exact tup_l m ⟨M, l, kQ rs ⟨g1, g2⟩⟩
  · refine ⟨⟨by omega, by omega⟩, lc_rng (fun y => ∃ r, y = It r ∧ (r.length = many.toNat ∧ NzB r)) (szl _ (by omega)) (fun k acc M' hk l g => ?_) (fun acc a M2 g na l m => ?_)⟩
    · walk_at "s"
      exact ⟨d, many, 6, z, rfl, l _ _ hd, ⟨by omega, by omega⟩, by decide, fun ns h1 h2 => ⟨Le.refl, fun _ _ _ => g.snoc ⟨ns, rfl, h1, h2⟩⟩⟩
    · obtain ⟨rs, rfl, g2⟩ := all_of g.2
      have g1 := g.1
      rw [List.length_map] at g1
      exact tup_l m ⟨M, l, kQ rs ⟨g1, g2⟩⟩
def LdOk (many states lots : Nat) (rs : List (List Nat)) : Prop := rs.length = states ∧ ∀ r ∈ rs, r.length = lots ∧ ∀ n ∈ r, n < many
def sp_ladder : PSp := fun ps M Q => ∃ (d : Addr) (states lots many : Int), ps = [.ref d, .int states, .int lots, .int many] ∧ M d = some .drw ∧ (0 < states ∧ states < 100) ∧ (0 < lots ∧ lots < 100) ∧ (0 < many ∧ many < 100) ∧ ∀ rs, LdOk many.toNat states.toNat lots.toNat rs → Q (Rs rs) M
theorem sp_ladder_len : ∀ vs M Q, sp_ladder vs M Q → vs.length = 4 := fun vs M Q ⟨a, b, c, d, e', _⟩ => by rw [e']; rfl
abbrev s__law_ladder : Stmt := top 133
theorem sc__law_ladder : FnScope ["d", "states", "lots", "many", "steps", "s", "bar", "found", "h"] ["d", "states", "lots", "many"] (defScope s__law_ladder) := ⟨rfl, rfl, rfl, by decide +kernel, rfl, by decide +kernel, by decide +kernel⟩
theorem c__law_ladder (F : Std K mg "_law_ladder" s__law_ladder) (B : BFree mg) (c__law_draw : C8.Cal P w K mg base 1 "_law_draw" (toSp K sp_draw) []) : C8.Cal P w K mg base 2 "_law_ladder" (toSp K sp_ladder) [] := by
  refine F.cal sc__law_ladder sp_ladder_len (fun _ _ _ _ _ _ us hl => match us, hl with | [_, _, _, _], _ => rfl) (fun f cdv A outer s H E hr => ?_)
  have nd := sc__law_ladder.nd
  refine ⟨_, _, (qss_cons (qs_set (i := 4) nd rfl (by first | exact .inl rfl | exact .inr rfl) (qe_lc (i := 5) rfl nd (qi_rng1 rfl B.f_range (qa_cons (qe_var (i := 1) rfl (by first | exact .inl rfl | exact .inr (.inl rfl) | exact .inr (.inr rfl))) qa_nil)) (blkOk_by (by kernel_rfl)) (fun _ _ _ _ _ => pg_name (i := 5) nd rfl (Or.inl rfl)) (fun _ _ _ _ _ => qts_nil) (fun _ _ _ _ _ => (qe_callK K c__law_draw hr (by decide) rfl (qa_cons (qe_var (i := 0) rfl (by first | exact .inl rfl | exact .inr (.inl rfl) | exact .inr (.inr rfl))) (qa_cons qe_int qa_nil))))))
      (qss_cons (qs_set (i := 6) nd rfl (by first | exact .inl rfl | exact .inr rfl) (qe_plusK K qe_int (qe_callK K c__law_draw hr (by decide) rfl (qa_cons (qe_var (i := 0) rfl (by first | exact .inl rfl | exact .inr (.inl rfl) | exact .inr (.inr rfl))) (qa_cons qe_int qa_nil)))))
      (qss_cons (qs_set (i := 7) nd rfl (by first | exact .inl rfl | exact .inr rfl) (qe_lst qa_nil))
      (qss_cons (qs_for PassesOwn.never rfl (qi_rng1 rfl B.f_range (qa_cons (qe_var (i := 1) rfl (by first | exact .inl rfl | exact .inr (.inl rfl) | exact .inr (.inr rfl))) qa_nil)) (qg_name (i := 5) nd rfl (by first | exact .inl rfl | exact .inr rfl)) (qss_one (qs_if (qt_eqK K hr.units (qe_var (i := 3) rfl (by first | exact .inl rfl | exact .inr (.inl rfl) | exact .inr (.inr rfl))) qe_int (nomark _)) (qss_one (qs_expr (qe_bmLK K PySem.F.plainAttrs_list PySem.F.slot_list_append PySem.F.type_list_append am_append mt_append (qe_var (i := 7) rfl (by first | exact .inl rfl | exact .inr (.inl rfl) | exact .inr (.inr rfl))) (qa_cons (qe_callTyK K ac_tuple call_tuple_of rfl B.f_tuple (by decide +kernel) (qa_cons (qe_lc (i := 8) rfl nd (qi_rng1 rfl B.f_range (qa_cons (qe_var (i := 2) rfl (by first | exact .inl rfl | exact .inr (.inl rfl) | exact .inr (.inr rfl))) qa_nil)) (blkOk_by (by kernel_rfl)) (fun _ _ _ _ _ => pg_name (i := 8) nd rfl (Or.inl rfl)) (fun _ _ _ _ _ => qts_nil) (fun _ _ _ _ _ => (qe_callTyK K ac_int cr_int rfl B.f_int (by decide +kernel) (qa_cons (qe_ge (qe_plusK K (qe_ixK K (qe_var (i := 4) rfl (by first | exact .inl rfl | exact .inr (.inl rfl) | exact .inr (.inr rfl))) (qe_var (i := 5) rfl (by first | exact .inl rfl | exact .inr (.inl rfl) | exact .inr (.inr rfl)))) (qe_var (i := 8) rfl (by first | exact .inl rfl | exact .inr (.inl rfl) | exact .inr (.inr rfl)))) (qe_var (i := 6) rfl (by first | exact .inl rfl | exact .inr (.inl rfl) | exact .inr (.inr rfl)))) qa_nil)))) qa_nil)) qa_nil)))) (qss_one (qs_expr (qe_bmLK K PySem.F.plainAttrs_list PySem.F.slot_list_append PySem.F.type_list_append am_append mt_append (qe_var (i := 7) rfl (by first | exact .inl rfl | exact .inr (.inl rfl) | exact .inr (.inr rfl))) (qa_cons (qe_callTyK K ac_tuple call_tuple_of rfl B.f_tuple (by decide +kernel) (qa_cons (qe_lc (i := 8) rfl nd (qi_rng1 rfl B.f_range (qa_cons (qe_var (i := 2) rfl (by first | exact .inl rfl | exact .inr (.inl rfl) | exact .inr (.inr rfl))) qa_nil)) (blkOk_by (by kernel_rfl)) (fun _ _ _ _ _ => pg_name (i := 8) nd rfl (Or.inl rfl)) (fun _ _ _ _ _ => qts_nil) (fun _ _ _ _ _ => (qe_callK K c__law_draw hr (by decide) rfl (qa_cons (qe_var (i := 0) rfl (by first | exact .inl rfl | exact .inr (.inl rfl) | exact .inr (.inr rfl))) (qa_cons (qe_var (i := 3) rfl (by first | exact .inl rfl | exact .inr (.inl rfl) | exact .inr (.inr rfl))) qa_nil))))) qa_nil)) qa_nil)))))))
      (qss_one (qs_ret (qe_callTyK K ac_tuple call_tuple_of rfl B.f_tuple (by decide +kernel) (qa_cons (qe_var (i := 7) rfl (by first | exact .inl rfl | exact .inr (.inl rfl) | exact .inr (.inr rfl))) qa_nil)))))))), fun vs M Q h => ?_⟩
  obtain ⟨d, states, lots, many, rfl, hd, hs, hl, hm, kQ⟩ := h
  walk_at "s"
  have r1 : -2 ^ 62 ≤ states ∧ states < 2 ^ 62 := ⟨by omega, by omega⟩
  have r2 : -2 ^ 62 ≤ lots ∧ lots < 2 ^ 62 := ⟨by omega, by omega⟩
  refine ⟨r1, lc_rng (fun y => ∃ n : Nat, y = I n) (szl _ (by omega)) (fun k acc M' hk l g => ?_) (fun acc a M2 g na l m => ?_)⟩
  · walk_at "s"
    exact dr (l _ _ hd) (by decide) (by decide) (fun x hx => ⟨Le.refl, fun _ _ _ => g.snoc ⟨x, rfl⟩⟩)
  obtain ⟨st, rfl⟩ := nats_of g.2
  have g1 := g.1
  rw [List.length_map] at g1
  refine dr (l _ _ hd) (by decide) (by decide) (fun bar hbar => ?_)
  dsimp only [pCat]
  intro b M3 nb l3 m3
  have am : M3 a = some (.lst (st.map I)) := l3 _ _ m
  refine ⟨r1, for_rng (fun k ρ M' => ∃ (rs : List (List Nat)) (u v : Option CR.P), ρ = [some (.ref d), some (.int states), some (.int lots), some (.int many), some (.ref a), u, some (.int (1 + (bar : Int))), some (.ref b), v] ∧ rs.length = k ∧ (∀ r ∈ rs, r.length = lots.toNat ∧ ∀ n ∈ r, n < many.toNat) ∧ Le M2 M' ∧ M' b = some (.lst (rs.map It))) ⟨[], _, _, rfl, rfl, fun _ h => (by cases h), l3, m3⟩ (fun k ρ M5 hk ⟨rs, u, v, eρ, h1, h2, h3, h4⟩ => ?_) (fun ρ M5 ⟨rs, u, v, eρ, h1, h2, h3, h4⟩ => ?_)⟩
  · subst eρ
    walk_at "s"
    have fin : ∀ (ns : List Nat), ns.length = lots.toNat → (∀ n ∈ ns, n < many.toNat) → ∀ (c : Addr) M6, Le M5 M6 → M6 c = some (.lst (ns.map I)) → pTuple [.ref c] M6 fun x M1 => pAppend (.ref b) [x] M1 fun x M1 => ∃ (rs : List (List Nat)) (u u2 : Option CR.P), [some (.ref d), some (.int states), some (.int lots), some (.int many), some (.ref a), some (.int (0 + (k : Int))), some (.int (1 + (bar : Int))), some (.ref b), v] = [some (.ref d), some (.int states), some (.int lots), some (.int many), some (.ref a), u, some (.int (1 + (bar : Int))), some (.ref b), u2] ∧ rs.length = k + 1 ∧ (∀ r ∈ rs, r.length = lots.toNat ∧ ∀ n ∈ r, n < many.toNat) ∧ Le M2 M1 ∧ M1 b = some (.lst (rs.map It)) := fun ns n1 n2 c M6 l6 m6 => by
      refine tup_l m6 (app_ (l6 _ _ h4) (sz _ (by rw [List.length_map]; omega)) (fun M' lx m' => ⟨rs ++ [ns], _, _, rfl, by rw [List.length_append, h1]; rfl, app_ok h2 fun r hr => by rw [List.mem_singleton.mp hr]; exact ⟨n1, n2⟩, (h3.trans l6).x nb lx, by rw [List.map_append]; exact m'⟩))
    have el : ∀ (k2 : Nat) (y : CR.P) (acc : List CR.P) (M6 M7 : Mp) (D : Addr), (∃ n, y = I n ∧ n < many.toNat) → AllG (fun y => ∃ n, y = I n ∧ n < many.toNat) k2 acc → Put D M7 acc y (AllG (fun y => ∃ n, y = I n ∧ n < many.toNat) (k2 + 1) (acc ++ [y])) := fun _ _ _ _ _ _ hy g => fun _ _ _ => g.snoc hy
    refine ⟨fun h5 => ?_, fun h5 => ?_⟩
    · have m2 : many = 2 := of_decide_eq_true h5
      walk_at "d"
      rw [h4]
      refine ⟨r2, lc_rng (fun y => ∃ n, y = I n ∧ n < many.toNat) (szl _ (by omega)) (fun k2 acc M' hk2 l6 g6 => ?_) (fun acc c M6 g6 nc l6 m6 => ?_)⟩
      · walk_at "s"
        obtain ⟨x, e, hx⟩ := mem_get (xs := st) (i := k) (by omega)
        refine ix_l (y := I x) (l6 _ _ (h3 _ _ m)) (by omega) (by rw [List.getElem?_map, show ((0 : Int) + k).toNat = k by omega, e]; rfl) ?_
        dsimp only [pCat, I, pInt]
        refine ⟨Le.refl, el _ _ _ M' _ _ ?_ g6⟩
        cases decide ((1 + (bar : Int)) ≤ (x : Int) + (0 + (k2 : Int))) with
        | true => exact ⟨1, rfl, by omega⟩
        | false => exact ⟨0, rfl, by omega⟩
      · obtain ⟨ns, rfl, g2⟩ := all_of g6.2
        have g1 := g6.1
        rw [List.length_map] at g1
        exact fin ns g1 g2 c M6 l6 m6
    · walk_at "d"
      rw [h4]
      refine ⟨r2, lc_rng (fun y => ∃ n, y = I n ∧ n < many.toNat) (szl _ (by omega)) (fun k2 acc M' hk2 l6 g6 => ?_) (fun acc c M6 g6 nc l6 m6 => ?_)⟩
      · walk_at "s"
        exact dr (l6 _ _ (h3 _ _ (l _ _ hd))) (by omega) (by omega) (fun x hx => ⟨Le.refl, el _ _ _ M' _ _ ⟨x, rfl, by omega⟩ g6⟩)
      · obtain ⟨ns, rfl, g2⟩ := all_of g6.2
        have g1 := g6.1
        rw [List.length_map] at g1
        exact fin ns g1 g2 c M6 l6 m6
  · subst eρ
    walk_at "s"
    exact tup_l h4 ⟨M, l.trans h3, kQ rs ⟨h1, h2⟩⟩
end
end CR

set_option Elab.async false
set_option linter.all false
set_option maxRecDepth 100000
set_option maxHeartbeats 4000000
set_option exponentiation.threshold 300000
namespace CR
open PySem PySem.Spec L2
local macro_rules | `(tactic| walk_at "s") => `(tactic| dsimp only [fRet, fSeq, fCut, fAsg, fDrop, fIfS, fNext, fBreak, fCont, fVar, fC, fOp, fCall, fCons, fNil, fCB, fBMS, fBML, fTup, fLst, fTest, fNot, fAnd, fOr, fAndV, fOrV, fNotV, fIf, fNeg, fChain, fGName, fGTup, fGCons, fGNil, fAugI, fSl, fPart, fNoPart, fRevL, fLstRg, fRepl, fFld, fSFld, fMeth, fProp, fPropSet, fMake, fMakeV, fCMeth, fGSub, fAugSub, fISeq, fIStr, fIRng1, fIRng2, fFor, fWhile, fLc, fYes, fIsi, fOf, fSeqX, fIfX, fRaise, fSetMX, fTry, fFldX, fIsX, fCMK, fMD, nth, lawS, startP, setS, clrS, wipeS, fnEnds, pI0, pI])
local macro_rules | `(tactic| walk_at "d") => `(tactic| try dsimp only)
section
variable {P : Program} {w : World} {K : PySem.W.Frag} {mg : Str → Option Value} {base : Heap}
/-- a question -/
structure Qn where
  drawn : Bool
  rows : List (List Nat)
  goes : List (Nat × Nat)
def Qn.p (q : Qn) : CR.P := .tup [.str (if q.drawn then "drawn" else "shown"), Rs q.rows, Gs q.goes]
def Qn.Ok (states lots modes : Nat) (q : Qn) : Prop := (0 < q.goes.length ∧ q.goes.length ≤ 12) ∧ (∀ g ∈ q.goes, GoOk modes g) ∧ (if q.drawn then LdOk q.goes.length states lots q.rows else RwOk q.goes.length states q.rows)
def sp_question : PSp := fun ps M Q => ∃ (d : Addr) (states lots mode modes style : Int), ps = [.ref d, .int states, .int lots, .int mode, .int modes, .int style] ∧ M d = some .drw ∧ (0 < states ∧ states < 100) ∧ (0 < lots ∧ lots < 100) ∧ (0 ≤ mode ∧ mode < 100) ∧ (0 < modes ∧ modes < 100) ∧
  ∀ q : Qn, q.Ok states.toNat lots.toNat modes.toNat → Q q.p M
theorem sp_question_len : ∀ vs M Q, sp_question vs M Q → vs.length = 6 := fun vs M Q ⟨a, b, c, d, e, f, e', _⟩ => by rw [e']; rfl
abbrev s__law_question : Stmt := top 134
theorem sc__law_question : FnScope ["d", "states", "lots", "mode", "modes", "style", "many", "is_drawn", "goes", "ahead", "go"] ["d", "states", "lots", "mode", "modes", "style"] (defScope s__law_question) := ⟨rfl, rfl, rfl, by decide +kernel, rfl, by decide +kernel, by decide +kernel⟩
theorem c__law_question (F : Std K mg "_law_question" s__law_question) (B : BFree mg) (c__law_draw : C8.Cal P w K mg base 1 "_law_draw" (toSp K sp_draw) []) (c__law_goes : C8.Cal P w K mg base 2 "_law_goes" (toSp K sp_goes) []) (c__law_ladder : C8.Cal P w K mg base 2 "_law_ladder" (toSp K sp_ladder) []) (c__law_shown : C8.Cal P w K mg base 3 "_law_shown" (toSp K sp_shown) []) : C8.Cal P w K mg base 4 "_law_question" (toSp K sp_question) [] := by
  refine F.cal sc__law_question sp_question_len (fun _ _ _ _ _ _ us hl => match us, hl with | [_, _, _, _, _, _], _ => rfl) (fun f cdv A outer s H E hr => ?_)
  have nd := sc__law_question.nd
  refine ⟨_, _, (qss_cons (qs_set (i := 6) nd rfl (by first | exact .inl rfl | exact .inr rfl) (qe_plusK K qe_int (qe_callBK K ac_max2 (call_max2 rfl) rfl B.f_max (by decide +kernel) (qa_cons (qe_callK K c__law_draw hr (by decide) rfl (qa_cons (qe_var (i := 0) rfl (by first | exact .inl rfl | exact .inr (.inl rfl) | exact .inr (.inr rfl))) (qa_cons qe_int qa_nil))) (qa_cons (qe_callK K c__law_draw hr (by decide) rfl (qa_cons (qe_var (i := 0) rfl (by first | exact .inl rfl | exact .inr (.inl rfl) | exact .inr (.inr rfl))) (qa_cons qe_int qa_nil))) qa_nil)))))
      (qss_cut (qs_set (i := 7) nd rfl (by first | exact .inl rfl | exact .inr rfl) (qe_and (qe_gt (qe_var (i := 2) rfl (by first | exact .inl rfl | exact .inr (.inl rfl) | exact .inr (.inr rfl))) qe_int) (qe_one (qe_gt (qe_callK K c__law_draw hr (by decide) rfl (qa_cons (qe_var (i := 0) rfl (by first | exact .inl rfl | exact .inr (.inl rfl) | exact .inr (.inr rfl))) (qa_cons qe_int qa_nil))) qe_int))))
      (qss_cons (qs_set (i := 8) nd rfl (by first | exact .inl rfl | exact .inr rfl) (qe_callK K c__law_goes hr (by decide) rfl (qa_cons (qe_var (i := 0) rfl (by first | exact .inl rfl | exact .inr (.inl rfl) | exact .inr (.inr rfl))) (qa_cons (qe_var (i := 6) rfl (by first | exact .inl rfl | exact .inr (.inl rfl) | exact .inr (.inr rfl))) (qa_cons (qe_var (i := 3) rfl (by first | exact .inl rfl | exact .inr (.inl rfl) | exact .inr (.inr rfl))) (qa_cons (qe_var (i := 4) rfl (by first | exact .inl rfl | exact .inr (.inl rfl) | exact .inr (.inr rfl))) (qa_cons (qe_var (i := 5) rfl (by first | exact .inl rfl | exact .inr (.inl rfl) | exact .inr (.inr rfl))) qa_nil)))))))
      (qss_cons (qs_if (QW.t (qw_and (qt_eqK K hr.units (qe_var (i := 5) rfl (by first | exact .inl rfl | exact .inr (.inl rfl) | exact .inr (.inr rfl))) qe_int (nomark _)) (qw_and1 (qt_eqK K hr.units (qe_var (i := 3) rfl (by first | exact .inl rfl | exact .inr (.inl rfl) | exact .inr (.inr rfl))) (qe_sub (qe_var (i := 4) rfl (by first | exact .inl rfl | exact .inr (.inl rfl) | exact .inr (.inr rfl))) qe_int) (nomark _))))) (qss_one (qs_ret (qe_tup (qa_cons qe_str (qa_cons (qe_callK K c__law_shown hr (by decide) rfl (qa_cons (qe_var (i := 0) rfl (by first | exact .inl rfl | exact .inr (.inl rfl) | exact .inr (.inr rfl))) (qa_cons (qe_var (i := 1) rfl (by first | exact .inl rfl | exact .inr (.inl rfl) | exact .inr (.inr rfl))) (qa_cons (qe_var (i := 6) rfl (by first | exact .inl rfl | exact .inr (.inl rfl) | exact .inr (.inr rfl))) (qa_cons qe_bl (qa_cons qe_bl qa_nil)))))) (qa_cons (qe_var (i := 8) rfl (by first | exact .inl rfl | exact .inr (.inl rfl) | exact .inr (.inr rfl))) qa_nil)))))) qss_nil)
      (qss_cons (qs_if (qt_val (qe_var (i := 7) rfl (by first | exact .inl rfl | exact .inr (.inl rfl) | exact .inr (.inr rfl)))) (qss_one (qs_ret (qe_tup (qa_cons qe_str (qa_cons (qe_callK K c__law_ladder hr (by decide) rfl (qa_cons (qe_var (i := 0) rfl (by first | exact .inl rfl | exact .inr (.inl rfl) | exact .inr (.inr rfl))) (qa_cons (qe_var (i := 1) rfl (by first | exact .inl rfl | exact .inr (.inl rfl) | exact .inr (.inr rfl))) (qa_cons (qe_var (i := 2) rfl (by first | exact .inl rfl | exact .inr (.inl rfl) | exact .inr (.inr rfl))) (qa_cons (qe_var (i := 6) rfl (by first | exact .inl rfl | exact .inr (.inl rfl) | exact .inr (.inr rfl))) qa_nil))))) (qa_cons (qe_var (i := 8) rfl (by first | exact .inl rfl | exact .inr (.inl rfl) | exact .inr (.inr rfl))) qa_nil)))))) qss_nil)
      (qss_cons (qs_if (qt_eqK K hr.units (qe_var (i := 5) rfl (by first | exact .inl rfl | exact .inr (.inl rfl) | exact .inr (.inr rfl))) qe_int (nomark _)) (qss_cons (qs_set (i := 9) nd rfl (by first | exact .inl rfl | exact .inr rfl) (qe_callBK K ac_all (cr_all rfl) rfl B.f_all (by decide +kernel) (qa_cons (qe_lc (i := 10) rfl nd (qi_seqK K (qe_var (i := 8) rfl (by first | exact .inl rfl | exact .inr (.inl rfl) | exact .inr (.inr rfl)))) (blkOk_by (by kernel_rfl)) (fun _ _ _ _ _ => pg_name (i := 10) nd rfl (Or.inl rfl)) (fun _ _ _ _ _ => qts_nil) (fun _ _ _ _ _ => (qe_gt (qe_ixK K (qe_var (i := 10) rfl (by first | exact .inl rfl | exact .inr (.inl rfl) | exact .inr (.inr rfl))) qe_int) (qe_var (i := 3) rfl (by first | exact .inl rfl | exact .inr (.inl rfl) | exact .inr (.inr rfl)))))) qa_nil)))
      (qss_one (qs_ret (qe_tup (qa_cons qe_str (qa_cons (qe_callK K c__law_shown hr (by decide) rfl (qa_cons (qe_var (i := 0) rfl (by first | exact .inl rfl | exact .inr (.inl rfl) | exact .inr (.inr rfl))) (qa_cons (qe_var (i := 1) rfl (by first | exact .inl rfl | exact .inr (.inl rfl) | exact .inr (.inr rfl))) (qa_cons (qe_var (i := 6) rfl (by first | exact .inl rfl | exact .inr (.inl rfl) | exact .inr (.inr rfl))) (qa_cons qe_bl (qa_cons (qe_not (qe_var (i := 9) rfl (by first | exact .inl rfl | exact .inr (.inl rfl) | exact .inr (.inr rfl)))) qa_nil)))))) (qa_cons (qe_var (i := 8) rfl (by first | exact .inl rfl | exact .inr (.inl rfl) | exact .inr (.inr rfl))) qa_nil))))))) qss_nil)
      (qss_one (qs_ret (qe_tup (qa_cons qe_str (qa_cons (qe_callK K c__law_shown hr (by decide) rfl (qa_cons (qe_var (i := 0) rfl (by first | exact .inl rfl | exact .inr (.inl rfl) | exact .inr (.inr rfl))) (qa_cons (qe_var (i := 1) rfl (by first | exact .inl rfl | exact .inr (.inl rfl) | exact .inr (.inr rfl))) (qa_cons (qe_var (i := 6) rfl (by first | exact .inl rfl | exact .inr (.inl rfl) | exact .inr (.inr rfl))) (qa_cons (qe_eqK K hr.units (qe_var (i := 5) rfl (by first | exact .inl rfl | exact .inr (.inl rfl) | exact .inr (.inr rfl))) qe_int (nomark _)) (qa_cons qe_bl qa_nil)))))) (qa_cons (qe_var (i := 8) rfl (by first | exact .inl rfl | exact .inr (.inl rfl) | exact .inr (.inr rfl))) qa_nil)))))))))))), fun vs M Q h => ?_⟩
  obtain ⟨d, states, lots, mode, modes, style, rfl, hd, hs, hl, hm, ho, kQ⟩ := h
  walk_at "s"
  refine dr hd (by decide) (by decide) (fun x hx => dr hd (by decide) (by decide) (fun y hy => ?_))
  dsimp only [pMax2, pCat]
  obtain ⟨many, e, h0, h1⟩ : ∃ many : Int, many = 1 + (if (y : Int) > x then (y : Int) else x) ∧ 0 < many ∧ many ≤ 3 := ⟨_, rfl, by split <;> omega, by split <;> omega⟩
  rw [← e]
  refine ⟨fun ρ M' => M' = M ∧ ∃ b, ρ = [some (.ref d), some (.int states), some (.int lots), some (.int mode), some (.int modes), some (.int style), some (.int many), some (.bl b), none, none, none], ⟨fun h2 => dr hd (by decide) (by decide) (fun z hz => ⟨rfl, _, rfl⟩), fun h2 => ⟨rfl, _, rfl⟩⟩, ?_⟩
  rintro ρ M' ⟨rfl, b, rfl⟩
  walk_at "s"
  refine ⟨d, many, mode, modes, style, rfl, hd, ⟨h0, by omega⟩, hm, ho, fun gs g1 g2 => ?_⟩
  have gl : (0 < gs.length ∧ gs.length ≤ 12) := ⟨by omega, by omega⟩
  have sh : ∀ (z c : Bool) (M1 : Mp), Le M' M1 → sp_shown [.ref d, .int states, .int many, .bl z, .bl c] M1 fun x M2 => ∃ M'', Le M'' M2 ∧ Q (.tup [.str "shown", x, Gs gs]) M'' := fun z c M1 l =>
    ⟨d, states, many, z, c, rfl, l _ _ hd, hs, ⟨h0, by omega⟩, fun rs hr => ⟨M', l, kQ ⟨false, rs, gs⟩ ⟨gl, g2, by rw [g1]; exact hr⟩⟩⟩
  have ld : sp_ladder [.ref d, .int states, .int lots, .int many] M' fun x M2 => ∃ M'', Le M'' M2 ∧ Q (.tup [.str "drawn", x, Gs gs]) M'' :=
    ⟨d, states, lots, many, rfl, hd, hs, hl, ⟨h0, by omega⟩, fun rs hr => ⟨M', Le.refl, kQ ⟨true, rs, gs⟩ ⟨gl, g2, by rw [g1]; exact hr⟩⟩⟩
  have rest : (b = false → ((decide (style = 1) = true → LcB (seqIt (gs.map fun g => CR.P.tup [I g.1, I g.2])) M' 10 fYes (fOp (pI0 fun i j => .bl (decide (j < i))) (fOp pIx (fVar 10) (fC (.int 0))) (fVar 3)) [some (.ref d), some (.int states), some (.int lots), some (.int mode), some (.int modes), some (.int style), some (.int many), some (.bl b), some (Gs gs), none, none]
      fun x M1 => pAll [x] M1 fun p_4 M1 => match p_4 with
        | .bl c => sp_shown [.ref d, .int states, .int many, .bl false, .bl !c] M1 fun x M2 => ∃ M'', Le M'' M2 ∧ Q (.tup [.str "shown", x, Gs gs]) M''
        | _ => False) ∧ (decide (style = 1) = false → sp_shown [.ref d, .int states, .int many, .bl (decide (style = 2)), .bl false] M' fun x M2 => ∃ M'', Le M'' M2 ∧ Q (.tup [.str "shown", x, Gs gs]) M''))) := fun _ => ⟨fun _ => ?_, fun _ => sh _ _ M' Le.refl⟩
  · exact ⟨fun _ => ⟨fun _ => sh _ _ M' Le.refl, fun _ => ⟨fun _ => ld, rest⟩⟩, fun _ => ⟨fun _ => ld, rest⟩⟩
  · refine lc_seqM (fun y => match y with | .tup [.int i, _] => .bl (decide (mode < i)) | _ => .non) (szl _ (by rw [List.length_map]; omega)) (fun j y M3 e hy l3 => ?_) (fun a M3 na l3 m3 => ?_)
    · obtain ⟨g, hg, rfl⟩ := List.mem_map.mp hy
      walk_at "s"
      exact i0 ⟨Le.refl, fun _ _ _ => tsnoc e rfl⟩
    · rw [List.map_map] at m3
      have m4 : M3 a = some (.lst ((gs.map fun g => decide (mode < (g.1 : Int))).map CR.P.bl)) := by rw [List.map_map]; exact m3
      exact all_l m4 (sh _ _ M3 l3)
/-- a house -/
structure Hs where
  rd : List (List Nat)
  near : CR.P
  lots : List Nat
  modes : List (List Qn)
def Mt (m : List Qn) : CR.P := .tup (m.map Qn.p)
def Hs.rp (h : Hs) : CR.P := .tup [.str "reader", .tup (h.rd.map It)]
def Hs.p (h : Hs) : CR.P := .tup [.str "house", h.rp, h.near, It h.lots, .tup (h.modes.map Mt)]
structure Hs.Ok (k : Nat) (h : Hs) : Prop where
  k0 : 0 < k ∧ k < 10
  rd : RdOk k h.rd.length h.rd
  rl : 0 < h.rd.length ∧ h.rd.length < 10
  ll : 0 < h.lots.length ∧ h.lots.length < 10
  lo : ∀ n ∈ h.lots, 0 < n ∧ n < 2 ^ 200
  ml : 0 < h.modes.length ∧ h.modes.length ≤ 60
  mo : ∀ m ∈ h.modes, m.length ≤ 8 ∧ ∀ q ∈ m, q.Ok h.rd.length h.lots.length h.modes.length
def sp_house : PSp := fun ps M Q => ∃ (d : Addr) (rs : List (List Nat)) (k : Nat) (near : CR.P) (modes lots style : Int), ps = [.ref d, .tup [.str "reader", .tup (rs.map It)], near, .int modes, .int lots, .int style] ∧ M d = some .drw ∧
  (0 < k ∧ k < 10) ∧ (0 < rs.length ∧ rs.length < 10) ∧ RdOk k rs.length rs ∧ (0 < modes ∧ modes < 10) ∧ (0 < lots ∧ lots < 10) ∧ ∀ h : Hs, h.Ok k → Q h.p M
theorem sp_house_len : ∀ vs M Q, sp_house vs M Q → vs.length = 6 := fun vs M Q ⟨a, b, c, d, e, f, g, e', _⟩ => by rw [e']; rfl
abbrev s__law_house : Stmt := top 135
theorem sc__law_house : FnScope ["d", "reader", "near", "modes", "lots", "style", "states", "rows", "mode", "many", "x", "weights", "h"] ["d", "reader", "near", "modes", "lots", "style"] (defScope s__law_house) := ⟨rfl, rfl, rfl, by decide +kernel, rfl, by decide +kernel, by decide +kernel⟩
theorem c__law_house (F : Std K mg "_law_house" s__law_house) (B : BFree mg) (c__law_draw : C8.Cal P w K mg base 1 "_law_draw" (toSp K sp_draw) []) (c__law_question : C8.Cal P w K mg base 4 "_law_question" (toSp K sp_question) []) : C8.Cal P w K mg base 5 "_law_house" (toSp K sp_house) [] := by
  refine F.cal sc__law_house sp_house_len (fun _ _ _ _ _ _ us hl => match us, hl with | [_, _, _, _, _, _], _ => rfl) (fun f cdv A outer s H E hr => ?_)
  have nd := sc__law_house.nd
  refine ⟨_, _, (qss_cons (qs_set (i := 6) nd rfl (by first | exact .inl rfl | exact .inr rfl) (qe_callBK K ac_len call_len rfl B.f_len PySem.boot_len (qa_cons (qe_ixK K (qe_var (i := 1) rfl (by first | exact .inl rfl | exact .inr (.inl rfl) | exact .inr (.inr rfl))) qe_int) qa_nil)))
      (qss_cons (qs_set (i := 7) nd rfl (by first | exact .inl rfl | exact .inr rfl) (qe_lst qa_nil))
      (qss_cons (qs_for PassesOwn.never rfl (qi_rng1 rfl B.f_range (qa_cons (qe_var (i := 3) rfl (by first | exact .inl rfl | exact .inr (.inl rfl) | exact .inr (.inr rfl))) qa_nil)) (qg_name (i := 8) nd rfl (by first | exact .inl rfl | exact .inr rfl)) (qss_cons (qs_set (i := 9) nd rfl (by first | exact .inl rfl | exact .inr rfl) (qe_callBK K ac_max2 (call_max2 rfl) rfl B.f_max (by decide +kernel) (qa_cons (qe_callK K c__law_draw hr (by decide) rfl (qa_cons (qe_var (i := 0) rfl (by first | exact .inl rfl | exact .inr (.inl rfl) | exact .inr (.inr rfl))) (qa_cons qe_int qa_nil))) (qa_cons (qe_callK K c__law_draw hr (by decide) rfl (qa_cons (qe_var (i := 0) rfl (by first | exact .inl rfl | exact .inr (.inl rfl) | exact .inr (.inr rfl))) (qa_cons qe_int qa_nil))) qa_nil))))
      (qss_one (qs_expr (qe_bmLK K PySem.F.plainAttrs_list PySem.F.slot_list_append PySem.F.type_list_append am_append mt_append (qe_var (i := 7) rfl (by first | exact .inl rfl | exact .inr (.inl rfl) | exact .inr (.inr rfl))) (qa_cons (qe_callTyK K ac_tuple call_tuple_of rfl B.f_tuple (by decide +kernel) (qa_cons (qe_lc (i := 10) rfl nd (qi_rng1 rfl B.f_range (qa_cons (qe_var (i := 9) rfl (by first | exact .inl rfl | exact .inr (.inl rfl) | exact .inr (.inr rfl))) qa_nil)) (blkOk_by (by kernel_rfl)) (fun _ _ _ _ _ => pg_name (i := 10) nd rfl (Or.inl rfl)) (fun _ _ _ _ _ => qts_nil) (fun _ _ _ _ _ => (qe_callK K c__law_question hr (by decide) rfl (qa_cons (qe_var (i := 0) rfl (by first | exact .inl rfl | exact .inr (.inl rfl) | exact .inr (.inr rfl))) (qa_cons (qe_var (i := 6) rfl (by first | exact .inl rfl | exact .inr (.inl rfl) | exact .inr (.inr rfl))) (qa_cons (qe_var (i := 4) rfl (by first | exact .inl rfl | exact .inr (.inl rfl) | exact .inr (.inr rfl))) (qa_cons (qe_var (i := 8) rfl (by first | exact .inl rfl | exact .inr (.inl rfl) | exact .inr (.inr rfl))) (qa_cons (qe_var (i := 3) rfl (by first | exact .inl rfl | exact .inr (.inl rfl) | exact .inr (.inr rfl))) (qa_cons (qe_var (i := 5) rfl (by first | exact .inl rfl | exact .inr (.inl rfl) | exact .inr (.inr rfl))) qa_nil))))))))) qa_nil)) qa_nil))))))
      (qss_cons (qs_set (i := 11) nd rfl (by first | exact .inl rfl | exact .inr rfl) (qe_callTyK K ac_tuple call_tuple_of rfl B.f_tuple (by decide +kernel) (qa_cons (qe_lc (i := 12) rfl nd (qi_rng1 rfl B.f_range (qa_cons (qe_var (i := 4) rfl (by first | exact .inl rfl | exact .inr (.inl rfl) | exact .inr (.inr rfl))) qa_nil)) (blkOk_by (by kernel_rfl)) (fun _ _ _ _ _ => pg_name (i := 12) nd rfl (Or.inl rfl)) (fun _ _ _ _ _ => qts_nil) (fun _ _ _ _ _ => (qe_plusK K qe_int (qe_callK K c__law_draw hr (by decide) rfl (qa_cons (qe_var (i := 0) rfl (by first | exact .inl rfl | exact .inr (.inl rfl) | exact .inr (.inr rfl))) (qa_cons qe_int qa_nil)))))) qa_nil)))
      (qss_one (qs_ret (qe_tup (qa_cons qe_str (qa_cons (qe_var (i := 1) rfl (by first | exact .inl rfl | exact .inr (.inl rfl) | exact .inr (.inr rfl))) (qa_cons (qe_var (i := 2) rfl (by first | exact .inl rfl | exact .inr (.inl rfl) | exact .inr (.inr rfl))) (qa_cons (qe_var (i := 11) rfl (by first | exact .inl rfl | exact .inr (.inl rfl) | exact .inr (.inr rfl))) (qa_cons (qe_callTyK K ac_tuple call_tuple_of rfl B.f_tuple (by decide +kernel) (qa_cons (qe_var (i := 7) rfl (by first | exact .inl rfl | exact .inr (.inl rfl) | exact .inr (.inr rfl))) qa_nil)) qa_nil)))))))))))), fun vs M Q h => ?_⟩
  obtain ⟨d, rs, k, near, modes, lots, style, rfl, hd, hk, hr, hR, hm, hl, kQ⟩ := h
  walk_at "s"
  have r1 : -2 ^ 62 ≤ modes ∧ modes < 2 ^ 62 := ⟨by omega, by omega⟩
  have r2 : -2 ^ 62 ≤ lots ∧ lots < 2 ^ 62 := ⟨by omega, by omega⟩
  refine i1 ?_
  dsimp only [pLen]
  rw [List.length_map]
  intro a M1 na l1 m1
  refine ⟨r1, for_rng (fun j ρ M' => ∃ (ms : List (List Qn)) (u v w : Option CR.P), ρ = [some (.ref d), some (.tup [.str "reader", .tup (rs.map It)]), some near, some (.int modes), some (.int lots), some (.int style), some (.int (rs.length : Nat)), some (.ref a), u, v, w, none, none] ∧ ms.length = j ∧ (∀ m ∈ ms, m.length ≤ 8 ∧ ∀ q ∈ m, q.Ok rs.length lots.toNat modes.toNat) ∧ Le M M' ∧ M' a = some (.lst (ms.map Mt))) ⟨[], _, _, _, rfl, rfl, fun _ h => (by cases h), l1, m1⟩ (fun j ρ M5 hj ⟨ms, u, v, w, eρ, h1, h2, h3, h4⟩ => ?_) (fun ρ M5 ⟨ms, u, v, w, eρ, h1, h2, h3, h4⟩ => ?_)⟩
  · subst eρ
    walk_at "s"
    refine dr (h3 _ _ hd) (by decide) (by decide) (fun x hx => dr (h3 _ _ hd) (by decide) (by decide) (fun y hy => ?_))
    dsimp only [pMax2]
    rw [h4]
    obtain ⟨many, e, g0, g1⟩ : ∃ many : Int, many = (if (y : Int) > x then (y : Int) else x) ∧ 0 ≤ many ∧ many ≤ 2 := ⟨_, rfl, by split <;> omega, by split <;> omega⟩
    rw [← e]
    refine ⟨⟨by omega, by omega⟩, lc_rng (fun y => ∃ q : Qn, y = q.p ∧ q.Ok rs.length lots.toNat modes.toNat) (szl _ (by omega)) (fun i acc M' hi l6 g6 => ?_) (fun acc b M6 g6 nb l6 m6 => ?_)⟩
    · walk_at "s"
      exact ⟨d, rs.length, lots, 0 + (j : Int), modes, style, rfl, l6 _ _ (h3 _ _ hd), ⟨by omega, by omega⟩, ⟨by omega, by omega⟩, ⟨by omega, by omega⟩, ⟨by omega, by omega⟩, fun q hq => ⟨Le.refl, fun _ _ _ => g6.snoc ⟨q, rfl, by rw [Int.toNat_natCast] at hq; exact hq⟩⟩⟩
    · obtain ⟨qs, rfl, q2⟩ := all_of g6.2
      have q1 := g6.1
      rw [List.length_map] at q1
      exact tup_l m6 (app_ (l6 _ _ h4) (sz _ (by rw [List.length_map]; omega)) (fun M' lx m' => ⟨ms ++ [qs], _, _, _, rfl, by rw [List.length_append, h1]; rfl, app_ok h2 fun m hm => by rw [List.mem_singleton.mp hm]; exact ⟨by omega, q2⟩, (h3.trans l6).x na lx, by rw [List.map_append]; exact m'⟩))
  · subst eρ
    walk_at "s"
    refine ⟨r2, lc_rng (fun y => ∃ n : Nat, y = I n ∧ (0 < n ∧ n < 2 ^ 200)) (szl _ (by omega)) (fun i acc M' hi l6 g6 => ?_) (fun acc b M6 g6 nb l6 m6 => ?_)⟩
    · walk_at "s"
      refine dr (l6 _ _ (h3 _ _ hd)) (by decide) (by decide) (fun x hx => ⟨Le.refl, fun _ _ _ => g6.snoc ⟨1 + x, rfl, by omega, by omega⟩⟩)
    · obtain ⟨ns, rfl, q2⟩ := all_of g6.2
      have q1 := g6.1
      rw [List.length_map] at q1
      refine tup_l m6 (tup_l (l6 _ _ h4) ⟨M, h3.trans l6, kQ ⟨rs, near, ns, ms⟩ ⟨hk, hR, hr, ⟨by dsimp only; omega, by dsimp only; omega⟩, q2, ⟨by dsimp only; omega, by dsimp only; omega⟩, fun m hm => ?_⟩⟩)
      have := h2 m hm
      dsimp only
      rw [show ns.length = lots.toNat by omega, h1]
      exact this
def sp_shouse : PSp := fun ps M Q => ∃ (d : Addr), ps = [.ref d] ∧ M d = some .drw ∧ ∀ (h : Hs) k, h.Ok k → Q h.p M
theorem sp_shouse_len : ∀ vs M Q, sp_shouse vs M Q → vs.length = 1 := fun vs M Q ⟨a, e', _⟩ => by rw [e']; rfl
abbrev s__law_small_house : Stmt := top 136
theorem sc__law_small_house : FnScope ["d", "kinds", "reader", "near", "lots", "modes"] ["d"] (defScope s__law_small_house) := ⟨rfl, rfl, rfl, by decide +kernel, rfl, by decide +kernel, by decide +kernel⟩
theorem c__law_small_house (F : Std K mg "_law_small_house" s__law_small_house) (B : BFree mg) (c__law_draw : C8.Cal P w K mg base 1 "_law_draw" (toSp K sp_draw) []) (c__law_house : C8.Cal P w K mg base 5 "_law_house" (toSp K sp_house) []) (c__law_near : C8.Cal P w K mg base 2 "_law_near" (toSp K sp_near) []) (c__law_reader : C8.Cal P w K mg base 2 "_law_reader" (toSp K sp_reader) []) : C8.Cal P w K mg base 6 "_law_small_house" (toSp K sp_shouse) [] := by
  refine F.cal sc__law_small_house sp_shouse_len (fun _ _ _ _ _ _ us hl => match us, hl with | [_], _ => rfl) (fun f cdv A outer s H E hr => ?_)
  have nd := sc__law_small_house.nd
  refine ⟨_, _, (qss_cons (qs_set (i := 1) nd rfl (by first | exact .inl rfl | exact .inr rfl) (qe_plusK K qe_int (qe_callBK K ac_max2 (call_max2 rfl) rfl B.f_max (by decide +kernel) (qa_cons (qe_callK K c__law_draw hr (by decide) rfl (qa_cons (qe_var (i := 0) rfl (by first | exact .inl rfl | exact .inr (.inl rfl) | exact .inr (.inr rfl))) (qa_cons qe_int qa_nil))) (qa_cons (qe_callK K c__law_draw hr (by decide) rfl (qa_cons (qe_var (i := 0) rfl (by first | exact .inl rfl | exact .inr (.inl rfl) | exact .inr (.inr rfl))) (qa_cons qe_int qa_nil))) qa_nil)))))
      (qss_cons (qs_set (i := 2) nd rfl (by first | exact .inl rfl | exact .inr rfl) (qe_callK K c__law_reader hr (by decide) rfl (qa_cons (qe_var (i := 0) rfl (by first | exact .inl rfl | exact .inr (.inl rfl) | exact .inr (.inr rfl))) (qa_cons (qe_var (i := 1) rfl (by first | exact .inl rfl | exact .inr (.inl rfl) | exact .inr (.inr rfl))) (qa_cons (qe_plusK K qe_int (qe_callK K c__law_draw hr (by decide) rfl (qa_cons (qe_var (i := 0) rfl (by first | exact .inl rfl | exact .inr (.inl rfl) | exact .inr (.inr rfl))) (qa_cons qe_int qa_nil)))) qa_nil)))))
      (qss_cons (qs_set (i := 3) nd rfl (by first | exact .inl rfl | exact .inr rfl) (qe_callK K c__law_near hr (by decide) rfl (qa_cons (qe_var (i := 0) rfl (by first | exact .inl rfl | exact .inr (.inl rfl) | exact .inr (.inr rfl))) (qa_cons (qe_var (i := 1) rfl (by first | exact .inl rfl | exact .inr (.inl rfl) | exact .inr (.inr rfl))) qa_nil))))
      (qss_cons (qs_set (i := 4) nd rfl (by first | exact .inl rfl | exact .inr rfl) (qe_plusK K qe_int (qe_callBK K ac_max2 (call_max2 rfl) rfl B.f_max (by decide +kernel) (qa_cons qe_int (qa_cons (qe_sub (qe_callK K c__law_draw hr (by decide) rfl (qa_cons (qe_var (i := 0) rfl (by first | exact .inl rfl | exact .inr (.inl rfl) | exact .inr (.inr rfl))) (qa_cons qe_int qa_nil))) qe_int) qa_nil)))))
      (qss_cons (qs_set (i := 5) nd rfl (by first | exact .inl rfl | exact .inr rfl) (qe_plusK K qe_int (qe_callK K c__law_draw hr (by decide) rfl (qa_cons (qe_var (i := 0) rfl (by first | exact .inl rfl | exact .inr (.inl rfl) | exact .inr (.inr rfl))) (qa_cons (qe_ifExp (qt_lt (qe_var (i := 4) rfl (by first | exact .inl rfl | exact .inr (.inl rfl) | exact .inr (.inr rfl))) qe_int) qe_int qe_int) qa_nil)))))
      (qss_one (qs_ret (qe_callK K c__law_house hr (by decide) rfl (qa_cons (qe_var (i := 0) rfl (by first | exact .inl rfl | exact .inr (.inl rfl) | exact .inr (.inr rfl))) (qa_cons (qe_var (i := 2) rfl (by first | exact .inl rfl | exact .inr (.inl rfl) | exact .inr (.inr rfl))) (qa_cons (qe_var (i := 3) rfl (by first | exact .inl rfl | exact .inr (.inl rfl) | exact .inr (.inr rfl))) (qa_cons (qe_var (i := 5) rfl (by first | exact .inl rfl | exact .inr (.inl rfl) | exact .inr (.inr rfl))) (qa_cons (qe_var (i := 4) rfl (by first | exact .inl rfl | exact .inr (.inl rfl) | exact .inr (.inr rfl))) (qa_cons (qe_callK K c__law_draw hr (by decide) rfl (qa_cons (qe_var (i := 0) rfl (by first | exact .inl rfl | exact .inr (.inl rfl) | exact .inr (.inr rfl))) (qa_cons qe_int qa_nil))) qa_nil)))))))))))))), fun vs M Q h => ?_⟩
  obtain ⟨d, rfl, hd, kQ⟩ := h
  walk_at "s"
  refine dr hd (by decide) (by decide) (fun x hx => dr hd (by decide) (by decide) (fun y hy => max_i (cat_i ?_)))
  obtain ⟨kinds, e, g0, g1⟩ : ∃ kinds : Int, kinds = 1 + (if (y : Int) > x then (y : Int) else x) ∧ 0 < kinds ∧ kinds ≤ 3 := ⟨_, rfl, by split <;> omega, by split <;> omega⟩
  rw [← e]
  refine dr hd (by decide) (by decide) (fun st hst => cat_i ?_)
  refine ⟨d, kinds, 1 + (st : Int), rfl, hd, ⟨by omega, by omega⟩, ⟨by omega, by omega⟩, fun rs hrs => ?_⟩
  refine ⟨d, kinds, rfl, hd, ⟨by omega, by omega⟩, fun near _ _ => ?_⟩
  refine dr hd (by decide) (by decide) (fun z hz => max_i (cat_i ?_))
  obtain ⟨lots, e2, g2, g3⟩ : ∃ lots : Int, lots = 1 + (if (z : Int) - 1 > 0 then (z : Int) - 1 else 0) ∧ 0 < lots ∧ lots ≤ 3 := ⟨_, rfl, by split <;> omega, by split <;> omega⟩
  rw [← e2]
  have fin : ∀ n : Int, 0 < n → n ≤ 3 → sp_draw [.ref d, .int n] M fun y M2 => pCat (.int 1) y M2 fun p M1 => sp_draw [.ref d, .int 4] M1 fun x M1 => sp_house [.ref d, .tup [.str "reader", .tup (rs.map It)], .tup near, p, .int lots, x] M1 fun p M' => ∃ M'', Le M'' M' ∧ Q p M'' := fun n n0 n1 =>
    dr hd n0 (by omega) (fun m hm => cat_i <| dr hd (by decide) (by decide) (fun sy hsy => ⟨d, rs, kinds.toNat, .tup near, 1 + (m : Int), lots, sy, rfl, hd, ⟨by omega, by omega⟩, ⟨by rw [hrs.1]; omega, by rw [hrs.1]; omega⟩, by rw [hrs.1]; exact hrs, ⟨by omega, by omega⟩, ⟨by omega, by omega⟩, fun h hh => ⟨M, Le.refl, kQ h _ hh⟩⟩))
  exact ⟨fun _ => fin 3 (by decide) (by decide), fun _ => fin 2 (by decide) (by decide)⟩
/-- a house whose first mode asks something -/
def Hs.Ok2 (h : Hs) : Prop := (∃ k, h.Ok k) ∧ ∃ m ms, h.modes = m :: ms ∧ 0 < m.length
def sp_busy : PSp := fun ps M Q => ∃ (d : Addr) (h : Hs) (k : Nat), ps = [.ref d, h.p] ∧ M d = some .drw ∧ h.Ok k ∧ ∀ h : Hs, h.Ok2 → Q h.p M
theorem sp_busy_len : ∀ vs M Q, sp_busy vs M Q → vs.length = 2 := fun vs M Q ⟨a, h, k, e', _⟩ => by rw [e']; rfl
theorem cut4 (a b c d e : CR.P) : cutP [a, b, c, d, e] none (some 4) = [a, b, c, d] := rfl
abbrev s__law_busy : Stmt := top 137
theorem sc__law_busy : FnScope ["d", "house", "ask"] ["d", "house"] (defScope s__law_busy) := ⟨rfl, rfl, rfl, by decide +kernel, rfl, by decide +kernel, by decide +kernel⟩
theorem c__law_busy (F : Std K mg "_law_busy" s__law_busy) (B : BFree mg) (c__law_question : C8.Cal P w K mg base 4 "_law_question" (toSp K sp_question) []) : C8.Cal P w K mg base 5 "_law_busy" (toSp K sp_busy) [] := by
  refine F.cal sc__law_busy sp_busy_len (fun _ _ _ _ _ _ us hl => match us, hl with | [_, _], _ => rfl) (fun f cdv A outer s H E hr => ?_)
  have nd := sc__law_busy.nd
  refine ⟨_, _, (qss_cons (qs_if (qt_gt (qe_callBK K ac_len call_len rfl B.f_len PySem.boot_len (qa_cons (qe_ixK K (qe_ixK K (qe_var (i := 1) rfl (by first | exact .inl rfl | exact .inr (.inl rfl) | exact .inr (.inr rfl))) qe_int) qe_int) qa_nil)) qe_int) (qss_one (qs_ret (qe_var (i := 1) rfl (by first | exact .inl rfl | exact .inr (.inl rfl) | exact .inr (.inr rfl))))) qss_nil)
      (qss_cons (qs_set (i := 2) nd rfl (by first | exact .inl rfl | exact .inr rfl) (qe_callK K c__law_question hr (by decide) rfl (qa_cons (qe_var (i := 0) rfl (by first | exact .inl rfl | exact .inr (.inl rfl) | exact .inr (.inr rfl))) (qa_cons (qe_callBK K ac_len call_len rfl B.f_len PySem.boot_len (qa_cons (qe_ixK K (qe_ixK K (qe_var (i := 1) rfl (by first | exact .inl rfl | exact .inr (.inl rfl) | exact .inr (.inr rfl))) qe_int) qe_int) qa_nil)) (qa_cons (qe_callBK K ac_len call_len rfl B.f_len PySem.boot_len (qa_cons (qe_ixK K (qe_var (i := 1) rfl (by first | exact .inl rfl | exact .inr (.inl rfl) | exact .inr (.inr rfl))) qe_int) qa_nil)) (qa_cons qe_int (qa_cons (qe_callBK K ac_len call_len rfl B.f_len PySem.boot_len (qa_cons (qe_ixK K (qe_var (i := 1) rfl (by first | exact .inl rfl | exact .inr (.inl rfl) | exact .inr (.inr rfl))) qe_int) qa_nil)) (qa_cons qe_int qa_nil))))))))
      (qss_one (qs_ret (qe_plusK K (qe_sliceK K (qe_var (i := 1) rfl (by first | exact .inl rfl | exact .inr (.inl rfl) | exact .inr (.inr rfl))) qo_none (qo_some qe_int)) (qe_tup (qa_cons (qe_plusK K (qe_tup (qa_cons (qe_tup (qa_cons (qe_var (i := 2) rfl (by first | exact .inl rfl | exact .inr (.inl rfl) | exact .inr (.inr rfl))) qa_nil)) qa_nil)) (qe_sliceK K (qe_ixK K (qe_var (i := 1) rfl (by first | exact .inl rfl | exact .inr (.inl rfl) | exact .inr (.inr rfl))) qe_int) (qo_some qe_int) qo_none)) qa_nil))))))), fun vs M Q h => ?_⟩
  obtain ⟨d, h, k, rfl, hd, hk, kQ⟩ := h
  walk_at "s"
  obtain ⟨rd, near, lots, modes⟩ := h
  cases modes with
  | nil => exact absurd hk.ml.1 (by simp)
  | cons m ms =>
  refine i4 (i0 (len_t ?_))
  refine ⟨fun h1 => ⟨M, Le.refl, kQ ⟨rd, near, lots, m :: ms⟩ ⟨⟨k, hk⟩, m, ms, rfl, ?_⟩⟩, fun h1 => ?_⟩
  · have := of_decide_eq_true h1
    rw [List.length_map] at this
    omega
  · refine i1 (i1 (len_t (i3 (len_t (i4 (len_t ?_))))))
    rw [List.length_map, List.length_map, List.length_map]
    obtain ⟨hk0, hR, hr, hl, hlo, hm, hmo⟩ := hk
    dsimp only at hk0 hR hr hl hlo hm hmo
    refine ⟨d, rd.length, lots.length, 0, (m :: ms).length, 3, rfl, hd, ⟨by omega, by omega⟩, ⟨by omega, by omega⟩, by decide, ⟨by omega, by omega⟩, fun q hq => ?_⟩
    refine sl_t (i4 (sl_t (cat_t ?_ (cat_t ?_ ?_))))
    · rw [List.map_cons, cut1, List.length_map]
      have := hm.2
      rw [List.length_cons] at this
      exact szl _ (by simp; omega)
    · exact szl _ (by show 4 + 1 < 2 ^ 20; decide)
    · rw [List.map_cons, cut1]
      refine ⟨M, Le.refl, ?_⟩
      refine kQ ⟨rd, near, lots, [q] :: ms⟩ ⟨⟨k, ⟨hk0, hR, hr, hl, hlo, hm, fun z hz => ?_⟩⟩, [q], ms, rfl, by simp⟩
      rcases List.mem_cons.mp hz with rfl | hz
      · refine ⟨by simp, fun q2 hq2 => ?_⟩
        rw [List.mem_singleton.mp hq2]
        simpa using hq
      · exact hmo z (List.mem_cons_of_mem _ hz)
end
end CR

set_option Elab.async false
set_option linter.all false
set_option maxRecDepth 100000
set_option maxHeartbeats 4000000
set_option exponentiation.threshold 300000
namespace CR
open PySem PySem.Spec L2
local macro_rules | `(tactic| walk_at "s") => `(tactic| dsimp only [fRet, fSeq, fCut, fAsg, fDrop, fIfS, fNext, fBreak, fCont, fVar, fC, fOp, fCall, fCons, fNil, fCB, fBMS, fBML, fTup, fLst, fTest, fNot, fAnd, fOr, fAndV, fOrV, fNotV, fIf, fNeg, fChain, fGName, fGTup, fGCons, fGNil, fAugI, fSl, fPart, fNoPart, fRevL, fLstRg, fRepl, fFld, fSFld, fMeth, fProp, fPropSet, fMake, fMakeV, fCMeth, fGSub, fAugSub, fISeq, fIStr, fIRng1, fIRng2, fFor, fWhile, fLc, fYes, fIsi, fOf, fSeqX, fIfX, fRaise, fSetMX, fTry, fFldX, fIsX, fCMK, fMD, nth, lawS, startP, setS, clrS, wipeS, fnEnds, pI0, pI])
local macro_rules | `(tactic| walk_at "d") => `(tactic| try dsimp only)
section
variable {P : Program} {w : World} {K : PySem.W.Frag} {mg : Str → Option Value} {base : Heap}
def numOf : List Nat → Nat → Nat
  | [], _ => 0
  | w :: ws, n => if n < w then 0 else numOf ws (n - w) + 1
theorem numOf_lt : ∀ (ws : List Nat) (n : Nat), n < ws.sum → numOf ws n < ws.length
  | [], n, h => by simp at h
  | w :: ws, n, h => by
    unfold numOf
    rw [List.sum_cons] at h
    rw [List.length_cons]
    split
    · omega
    · have := numOf_lt ws (n - w) (by omega)
      omega
theorem numOf_cut : ∀ (ws : List Nat) (n k : Nat) (w : Nat), (ws.take k).sum ≤ n → ws[k]? = some w → n < (ws.take k).sum + w → numOf ws n = k
  | [], _, _, _, _, e, _ => by simp at e
  | v :: ws, n, 0, w, h, e, l => by
    simp at e l
    subst e
    unfold numOf
    rw [if_pos l]
  | v :: ws, n, k + 1, w, h, e, l => by
    rw [List.take_succ_cons, List.sum_cons] at h l
    unfold numOf
    rw [if_neg (by omega), numOf_cut ws (n - v) k w (by omega) (by simpa using e) (by omega)]
theorem sum_take_succ {ws : List Nat} {k w : Nat} (e : ws[k]? = some w) : (ws.take (k + 1)).sum = (ws.take k).sum + w := by
  rw [List.take_succ, e, List.sum_append]
  simp
def sp_number : PSp := fun ps M Q => ∃ (ws : List Nat) (n : Nat), ps = [It ws, .int n] ∧ ws.length < 100 ∧ n < ws.sum ∧ Q (I (numOf ws n)) M
theorem sp_number_len : ∀ vs M Q, sp_number vs M Q → vs.length = 2 := fun vs M Q ⟨a, b, e', _⟩ => by rw [e']; rfl
abbrev s__law_number : Stmt := top 144
theorem sc__law_number : FnScope ["weights", "n", "whole", "a"] ["weights", "n"] (defScope s__law_number) := ⟨rfl, rfl, rfl, by decide +kernel, rfl, by decide +kernel, by decide +kernel⟩
theorem c__law_number (F : Std K mg "_law_number" s__law_number) (B : BFree mg) : C8.Cal P w K mg base 1 "_law_number" (toSp K sp_number) [] := by
  refine F.cal sc__law_number sp_number_len (fun _ _ _ _ _ _ us hl => match us, hl with | [_, _], _ => rfl) (fun f cdv A outer s H E hr => ?_)
  have nd := sc__law_number.nd
  refine ⟨_, _, (qss_cons (qs_set (i := 2) nd rfl (by first | exact .inl rfl | exact .inr rfl) qe_int)
      (qss_cons (qs_for PassesOwn.never rfl (qi_rng1 rfl B.f_range (qa_cons (qe_callBK K ac_len call_len rfl B.f_len PySem.boot_len (qa_cons (qe_var (i := 0) rfl (by first | exact .inl rfl | exact .inr (.inl rfl) | exact .inr (.inr rfl))) qa_nil)) qa_nil)) (qg_name (i := 3) nd rfl (by first | exact .inl rfl | exact .inr rfl)) (qss_cons (qs_augAdd (i := 2) nd rfl (by first | exact .inl rfl | exact .inr rfl) (qe_ixK K (qe_var (i := 0) rfl (by first | exact .inl rfl | exact .inr (.inl rfl) | exact .inr (.inr rfl))) (qe_var (i := 3) rfl (by first | exact .inl rfl | exact .inr (.inl rfl) | exact .inr (.inr rfl)))))
      (qss_one (qs_if (qt_gt (qe_var (i := 2) rfl (by first | exact .inl rfl | exact .inr (.inl rfl) | exact .inr (.inr rfl))) (qe_var (i := 1) rfl (by first | exact .inl rfl | exact .inr (.inl rfl) | exact .inr (.inr rfl)))) (qss_one (qs_ret (qe_var (i := 3) rfl (by first | exact .inl rfl | exact .inr (.inl rfl) | exact .inr (.inr rfl))))) qss_nil))))
      (qss_one (qs_ret (qe_neg qe_int))))), fun vs M Q h => ?_⟩
  obtain ⟨ws, n, rfl, hl, hn, kQ⟩ := h
  walk_at "s"
  refine len_t ?_
  rw [List.length_map]
  refine ⟨⟨by omega, by omega⟩, for_rng (fun k ρ M' => ∃ u, ρ = [some (It ws), some (.int n), some (.int ((ws.take k).sum : Nat)), u] ∧ M' = M ∧ (ws.take k).sum ≤ n) ⟨_, rfl, rfl, Nat.zero_le _⟩ (fun k ρ M5 hk ⟨u, eρ, h1, h2⟩ => ?_) (fun ρ M5 ⟨u, eρ, h1, h2⟩ => ?_)⟩
  · subst eρ h1
    obtain ⟨w, e, _⟩ := mem_get (xs := ws) (i := k) (by omega)
    walk_at "s"
    refine ix_t (by omega) (y := I w) (by rw [List.getElem?_map, show ((0 : Int) + k).toNat = k by omega, e]; rfl) ?_
    dsimp only [I]
    refine ⟨fun h3 => ⟨M5, Le.refl, ?_⟩, fun h3 => ⟨some (.int (0 + (k : Int))), ?_, rfl, ?_⟩⟩
    · have h4 := of_decide_eq_true h3
      rw [numOf_cut ws n k w h2 e (by omega)] at kQ
      rw [show (0 : Int) + k = (k : Int) by omega]
      exact kQ
    · rw [sum_take_succ e]
      rfl
    · have h4 := of_decide_eq_false h3
      rw [sum_take_succ e]
      omega
  · rw [show ((ws.length : Nat) : Int).toNat = ws.length by omega, List.take_length] at h2
    omega
abbrev s_number_told : Stmt := top 104
theorem sc_number_told : FnScope ["weights", "integer", "whole", "number"] ["weights", "integer"] (defScope s_number_told) := ⟨rfl, rfl, rfl, by decide +kernel, rfl, by decide +kernel, by decide +kernel⟩
theorem c_number_told (F : Std K mg "number_told" s_number_told) (B : BFree mg) : C8.Cal P w K mg base 1 "number_told" (toSp K sp_number) [] := by
  refine F.cal sc_number_told sp_number_len (fun _ _ _ _ _ _ us hl => match us, hl with | [_, _], _ => rfl) (fun f cdv A outer s H E hr => ?_)
  have nd := sc_number_told.nd
  refine ⟨_, _, (qss_cons (qs_set (i := 2) nd rfl (by first | exact .inl rfl | exact .inr rfl) qe_int)
      (qss_cons (qs_for PassesOwn.never rfl (qi_rng1 rfl B.f_range (qa_cons (qe_callBK K ac_len call_len rfl B.f_len PySem.boot_len (qa_cons (qe_var (i := 0) rfl (by first | exact .inl rfl | exact .inr (.inl rfl) | exact .inr (.inr rfl))) qa_nil)) qa_nil)) (qg_name (i := 3) nd rfl (by first | exact .inl rfl | exact .inr rfl)) (qss_cons (qs_set (i := 2) nd rfl (by first | exact .inl rfl | exact .inr rfl) (qe_plusK K (qe_var (i := 2) rfl (by first | exact .inl rfl | exact .inr (.inl rfl) | exact .inr (.inr rfl))) (qe_ixK K (qe_var (i := 0) rfl (by first | exact .inl rfl | exact .inr (.inl rfl) | exact .inr (.inr rfl))) (qe_var (i := 3) rfl (by first | exact .inl rfl | exact .inr (.inl rfl) | exact .inr (.inr rfl))))))
      (qss_one (qs_if (qt_gt (qe_var (i := 2) rfl (by first | exact .inl rfl | exact .inr (.inl rfl) | exact .inr (.inr rfl))) (qe_var (i := 1) rfl (by first | exact .inl rfl | exact .inr (.inl rfl) | exact .inr (.inr rfl)))) (qss_one (qs_ret (qe_var (i := 3) rfl (by first | exact .inl rfl | exact .inr (.inl rfl) | exact .inr (.inr rfl))))) qss_nil))))
      (qss_one (qs_ret (qe_sub (qe_callBK K ac_len call_len rfl B.f_len PySem.boot_len (qa_cons (qe_var (i := 0) rfl (by first | exact .inl rfl | exact .inr (.inl rfl) | exact .inr (.inr rfl))) qa_nil)) qe_int))))), fun vs M Q h => ?_⟩
  obtain ⟨ws, n, rfl, hl, hn, kQ⟩ := h
  walk_at "s"
  refine len_t ?_
  rw [List.length_map]
  refine ⟨⟨by omega, by omega⟩, for_rng (fun k ρ M' => ∃ u, ρ = [some (It ws), some (.int n), some (.int ((ws.take k).sum : Nat)), u] ∧ M' = M ∧ (ws.take k).sum ≤ n) ⟨_, rfl, rfl, Nat.zero_le _⟩ (fun k ρ M5 hk ⟨u, eρ, h1, h2⟩ => ?_) (fun ρ M5 ⟨u, eρ, h1, h2⟩ => ?_)⟩
  · subst eρ h1
    obtain ⟨w, e, _⟩ := mem_get (xs := ws) (i := k) (by omega)
    walk_at "s"
    refine ix_t (by omega) (y := I w) (by rw [List.getElem?_map, show ((0 : Int) + k).toNat = k by omega, e]; rfl) (cat_i ?_)
    refine ⟨fun h3 => ⟨M5, Le.refl, ?_⟩, fun h3 => ⟨some (.int (0 + (k : Int))), ?_, rfl, ?_⟩⟩
    · have h4 := of_decide_eq_true h3
      rw [numOf_cut ws n k w h2 e (by omega)] at kQ
      rw [show (0 : Int) + k = (k : Int) by omega]
      exact kQ
    · rw [sum_take_succ e]
      rfl
    · have h4 := of_decide_eq_false h3
      rw [sum_take_succ e]
      omega
  · rw [show ((ws.length : Nat) : Int).toNat = ws.length by omega, List.take_length] at h2
    omega
def sp_ticket : PSp := fun ps M Q => ∃ (d : Addr) (w : Int), ps = [.ref d, .int w] ∧ M d = some .drw ∧ (0 < w ∧ w.natAbs < 2 ^ 300) ∧ ∀ t : Nat, (t : Int) < w → Q (.int t) M
theorem sp_ticket_len : ∀ vs M Q, sp_ticket vs M Q → vs.length = 2 := fun vs M Q ⟨a, b, e', _⟩ => by rw [e']; rfl
abbrev s__law_ticket : Stmt := top 145
theorem sc__law_ticket : FnScope ["d", "whole", "style"] ["d", "whole"] (defScope s__law_ticket) := ⟨rfl, rfl, rfl, by decide +kernel, rfl, by decide +kernel, by decide +kernel⟩
theorem c__law_ticket (F : Std K mg "_law_ticket" s__law_ticket) (B : BFree mg) (c__law_draw : C8.Cal P w K mg base 1 "_law_draw" (toSp K sp_draw) []) : C8.Cal P w K mg base 2 "_law_ticket" (toSp K sp_ticket) [] := by
  refine F.cal sc__law_ticket sp_ticket_len (fun _ _ _ _ _ _ us hl => match us, hl with | [_, _], _ => rfl) (fun f cdv A outer s H E hr => ?_)
  have nd := sc__law_ticket.nd
  refine ⟨_, _, (qss_cons (qs_set (i := 2) nd rfl (by first | exact .inl rfl | exact .inr rfl) (qe_callK K c__law_draw hr (by decide) rfl (qa_cons (qe_var (i := 0) rfl (by first | exact .inl rfl | exact .inr (.inl rfl) | exact .inr (.inr rfl))) (qa_cons qe_int qa_nil))))
      (qss_cons (qs_if (qt_eqK K hr.units (qe_var (i := 2) rfl (by first | exact .inl rfl | exact .inr (.inl rfl) | exact .inr (.inr rfl))) qe_int (nomark _)) (qss_one (qs_ret (qe_sub (qe_var (i := 1) rfl (by first | exact .inl rfl | exact .inr (.inl rfl) | exact .inr (.inr rfl))) qe_int))) qss_nil)
      (qss_cons (qs_if (qt_eqK K hr.units (qe_var (i := 2) rfl (by first | exact .inl rfl | exact .inr (.inl rfl) | exact .inr (.inr rfl))) qe_int (nomark _)) (qss_one (qs_ret (qe_fdiv (qe_mul (qe_callK K c__law_draw hr (by decide) rfl (qa_cons (qe_var (i := 0) rfl (by first | exact .inl rfl | exact .inr (.inl rfl) | exact .inr (.inr rfl))) (qa_cons qe_int qa_nil))) (qe_sub (qe_var (i := 1) rfl (by first | exact .inl rfl | exact .inr (.inl rfl) | exact .inr (.inr rfl))) qe_int)) qe_int))) qss_nil)
      (qss_one (qs_ret (qe_callK K c__law_draw hr (by decide) rfl (qa_cons (qe_var (i := 0) rfl (by first | exact .inl rfl | exact .inr (.inl rfl) | exact .inr (.inr rfl))) (qa_cons (qe_var (i := 1) rfl (by first | exact .inl rfl | exact .inr (.inl rfl) | exact .inr (.inr rfl))) qa_nil)))))))), fun vs M Q h => ?_⟩
  obtain ⟨d, w, rfl, hd, hw, kQ⟩ := h
  walk_at "s"
  refine dr hd (by decide) (by decide) (fun x hx => ⟨fun _ => ⟨M, Le.refl, ?_⟩, fun _ => ⟨fun _ => ?_, fun _ => ?_⟩⟩)
  · have := kQ (w - 1).toNat (by omega)
    rw [Int.toNat_of_nonneg (by omega)] at this
    exact this
  · refine dr hd (by decide) (by decide) (fun r hr => ⟨cmx_l (by omega) (by omega), wide_div (b := 10) (by decide) (by decide) (by decide) (by decide), M, Le.refl, ?_⟩)
    have h0 : 0 ≤ (r : Int) * (w - 1) := Int.mul_nonneg (by omega) (by omega)
    have h1 : (r : Int) * (w - 1) ≤ 999 * (w - 1) := Int.mul_le_mul_of_nonneg_right (by omega) (by omega)
    have h2 : 0 ≤ (r : Int) * (w - 1) / 999 := by omega
    have h3 : (r : Int) * (w - 1) / 999 < w := by omega
    have := kQ ((r : Int) * (w - 1) / 999).toNat (by omega)
    rw [Int.toNat_of_nonneg h2] at this
    exact this
  · refine ⟨d, w, rfl, hd, ⟨hw.1, Nat.lt_of_lt_of_le hw.2 (Nat.pow_le_pow_right (by decide) (by decide))⟩, fun r h0 h1 => ⟨M, Le.refl, ?_⟩⟩
    have := kQ r.toNat (by omega)
    rw [Int.toNat_of_nonneg h0] at this
    exact this
/-- a price -/
def PrOk (n d : Int) : Prop := (0 < n ∧ n.natAbs < 2 ^ 140) ∧ (0 < d ∧ d ≤ 4)
theorem nfr_div {n d : Int} (hd : 0 < d) : (0 < d / (Int.gcd n d : Int) ∧ d / (Int.gcd n d : Int) ≤ d) ∧ (n / (Int.gcd n d : Int)).natAbs ≤ n.natAbs ∧ (0 < n → 0 < n / (Int.gcd n d : Int)) := by
  have g0 := gcd_pos (n := n) hd
  obtain ⟨x, hx⟩ := Int.gcd_dvd_left n d
  obtain ⟨y, hy⟩ := Int.gcd_dvd_right n d
  generalize (Int.gcd n d : Int) = g at g0 hx hy
  subst hx hy
  rw [Int.mul_ediv_cancel_left _ (by omega), Int.mul_ediv_cancel_left _ (by omega)]
  have y0 : 0 < y := by
    rcases Int.lt_trichotomy y 0 with h | h | h
    · have := Int.mul_neg_of_pos_of_neg g0 h
      omega
    · subst h; simp at hd
    · exact h
  refine ⟨⟨y0, ?_⟩, ?_, fun h => ?_⟩
  · have := Int.mul_le_mul_of_nonneg_right (show (1 : Int) ≤ g by omega) (show 0 ≤ y by omega)
    omega
  · rw [Int.natAbs_mul]
    exact Nat.le_mul_of_pos_left _ (by omega)
  · rcases Int.lt_trichotomy x 0 with h2 | h2 | h2
    · have := Int.mul_neg_of_pos_of_neg g0 h2
      omega
    · subst h2; simp at h
    · exact h2
theorem pr_nfr {n d : Int} (h : PrOk n d) : PrOk (n / (Int.gcd n d : Int)) (d / (Int.gcd n d : Int)) := by
  obtain ⟨⟨h1, h2⟩, h3, h4⟩ := h
  obtain ⟨⟨a, b⟩, c, e⟩ := nfr_div (n := n) h3
  exact ⟨⟨e h1, by omega⟩, a, by omega⟩
theorem ge_nfr {n d : Int} (hd : 0 < d) (h : d ≤ n) : d / (Int.gcd n d : Int) ≤ n / (Int.gcd n d : Int) := Int.ediv_le_ediv (gcd_pos hd) h
def sp_price : PSp := fun ps M Q => ∃ (d : Addr), ps = [.ref d] ∧ M d = some .drw ∧ ∀ n e : Int, PrOk n e → e ≤ n → Q (fr n e) M
theorem sp_price_len : ∀ vs M Q, sp_price vs M Q → vs.length = 1 := fun vs M Q ⟨a, e', _⟩ => by rw [e']; rfl
abbrev s__law_price : Stmt := top 141
theorem sc__law_price : FnScope ["d", "style", "low"] ["d"] (defScope s__law_price) := ⟨rfl, rfl, rfl, by decide +kernel, rfl, by decide +kernel, by decide +kernel⟩
theorem c__law_price (F : Std K mg "_law_price" s__law_price) (B : BFree mg) (c__law_draw : C8.Cal P w K mg base 1 "_law_draw" (toSp K sp_draw) []) (c__law_f : C8.Cal P w K mg base 2 "_law_f" (toSp K sp_f) []) : C8.Cal P w K mg base 3 "_law_price" (toSp K sp_price) [] := by
  refine F.cal sc__law_price sp_price_len (fun _ _ _ _ _ _ us hl => match us, hl with | [_], _ => rfl) (fun f cdv A outer s H E hr => ?_)
  have nd := sc__law_price.nd
  refine ⟨_, _, (qss_cons (qs_set (i := 1) nd rfl (by first | exact .inl rfl | exact .inr rfl) (qe_callK K c__law_draw hr (by decide) rfl (qa_cons (qe_var (i := 0) rfl (by first | exact .inl rfl | exact .inr (.inl rfl) | exact .inr (.inr rfl))) (qa_cons qe_int qa_nil))))
      (qss_cons (qs_if (qt_lt (qe_var (i := 1) rfl (by first | exact .inl rfl | exact .inr (.inl rfl) | exact .inr (.inr rfl))) qe_int) (qss_one (qs_ret (qe_tup (qa_cons qe_int (qa_cons qe_int qa_nil))))) qss_nil)
      (qss_cons (qs_if (qt_eqK K hr.units (qe_var (i := 1) rfl (by first | exact .inl rfl | exact .inr (.inl rfl) | exact .inr (.inr rfl))) qe_int (nomark _)) (qss_one (qs_ret (qe_ifExp (qt_eqK K hr.units (qe_callK K c__law_draw hr (by decide) rfl (qa_cons (qe_var (i := 0) rfl (by first | exact .inl rfl | exact .inr (.inl rfl) | exact .inr (.inr rfl))) (qa_cons qe_int qa_nil))) qe_int (nomark _)) (qe_callK K c__law_f hr (by decide) rfl (qa_cons (qe_plusK K (qe_pow qe_int qe_int) (qe_callK K c__law_draw hr (by decide) rfl (qa_cons (qe_var (i := 0) rfl (by first | exact .inl rfl | exact .inr (.inl rfl) | exact .inr (.inr rfl))) (qa_cons qe_int qa_nil)))) (qa_cons qe_int qa_nil))) (qe_tup (qa_cons qe_int (qa_cons qe_int qa_nil)))))) qss_nil)
      (qss_cons (qs_set (i := 2) nd rfl (by first | exact .inl rfl | exact .inr rfl) (qe_plusK K qe_int (qe_callK K c__law_draw hr (by decide) rfl (qa_cons (qe_var (i := 0) rfl (by first | exact .inl rfl | exact .inr (.inl rfl) | exact .inr (.inr rfl))) (qa_cons qe_int qa_nil)))))
      (qss_one (qs_ret (qe_callK K c__law_f hr (by decide) rfl (qa_cons (qe_plusK K (qe_var (i := 2) rfl (by first | exact .inl rfl | exact .inr (.inl rfl) | exact .inr (.inr rfl))) (qe_callK K c__law_draw hr (by decide) rfl (qa_cons (qe_var (i := 0) rfl (by first | exact .inl rfl | exact .inr (.inl rfl) | exact .inr (.inr rfl))) (qa_cons qe_int qa_nil)))) (qa_cons (qe_var (i := 2) rfl (by first | exact .inl rfl | exact .inr (.inl rfl) | exact .inr (.inr rfl))) qa_nil))))))))), fun vs M Q h => ?_⟩
  obtain ⟨d, rfl, hd, kQ⟩ := h
  walk_at "s"
  refine dr hd (by decide) (by decide) (fun x hx => ⟨fun _ => ⟨M, Le.refl, kQ 1 1 (by unfold PrOk; decide) (by decide)⟩, fun _ => ⟨fun _ => ?_, fun _ => ?_⟩⟩)
  · refine dr hd (by decide) (by decide) (fun y hy => ⟨fun _ => ?_, fun _ => ⟨M, Le.refl, kQ 2 1 (by unfold PrOk; decide) (by decide)⟩⟩)
    refine ⟨⟨by decide, by decide, by decide⟩, dr hd (by decide) (by decide) (fun z hz => cat_i ⟨_, _, rfl, by decide, by decide, M, Le.refl, kQ _ _ (pr_nfr ⟨⟨?_, ?_⟩, by decide⟩) (ge_nfr (by decide) ?_)⟩)⟩
    · have : (0 : Int) ≤ 10 ^ (40 : Int).toNat := by decide
      have : (0 : Int) < 10 ^ (40 : Int).toNat := by decide
      omega
    · have e : (10 : Int) ^ (40 : Int).toNat = 10000000000000000000000000000000000000000 := by decide
      rw [e]
      have e2 : (2 : Nat) ^ 140 = 1393796574908163946345982392040522594123776 := by decide
      omega
    · have e : (10 : Int) ^ (40 : Int).toNat = 10000000000000000000000000000000000000000 := by decide
      rw [e]
      omega
  · refine dr hd (by decide) (by decide) (fun l hl => cat_i (dr hd (by decide) (by decide) (fun z hz => cat_i ⟨_, _, rfl, by omega, ?_, M, Le.refl, kQ _ _ (pr_nfr ⟨⟨by omega, ?_⟩, by omega, by omega⟩) (ge_nfr (by omega) (by omega))⟩)))
    · exact Nat.lt_of_lt_of_le (m := 2 ^ 10) (by omega) (Nat.pow_le_pow_right (by decide) (by decide))
    · exact Nat.lt_of_lt_of_le (m := 2 ^ 10) (by omega) (Nat.pow_le_pow_right (by decide) (by decide))
/-- the price of each question -/
def Pr (c : Int × Int) : CR.P := fr c.1 c.2
def Prs (cs : List (Int × Int)) : CR.P := .tup (cs.map Pr)
structure RatesOk (ms : List (List Qn)) (rates : List (List (Int × Int))) : Prop where
  len : rates.map List.length = ms.map List.length
  ok : ∀ cs ∈ rates, ∀ c ∈ cs, PrOk c.1 c.2
  ge : ∀ cs ∈ rates, ∀ c ∈ cs, c.2 ≤ c.1
def sp_rates : PSp := fun ps M Q => ∃ (d : Addr) (h : Hs), ps = [.ref d, h.p] ∧ M d = some .drw ∧ (h.modes.length < 100 ∧ ∀ m ∈ h.modes, m.length < 100) ∧ ∀ rates, RatesOk h.modes rates → Q (.tup (rates.map Prs)) M
theorem sp_rates_len : ∀ vs M Q, sp_rates vs M Q → vs.length = 2 := fun vs M Q ⟨a, b, e', _⟩ => by rw [e']; rfl
abbrev s__law_rates : Stmt := top 142
theorem sc__law_rates : FnScope ["d", "house", "ask", "mode"] ["d", "house"] (defScope s__law_rates) := ⟨rfl, rfl, rfl, by decide +kernel, rfl, by decide +kernel, by decide +kernel⟩
theorem c__law_rates (F : Std K mg "_law_rates" s__law_rates) (B : BFree mg) (c__law_price : C8.Cal P w K mg base 3 "_law_price" (toSp K sp_price) []) : C8.Cal P w K mg base 4 "_law_rates" (toSp K sp_rates) [] := by
  refine F.cal sc__law_rates sp_rates_len (fun _ _ _ _ _ _ us hl => match us, hl with | [_, _], _ => rfl) (fun f cdv A outer s H E hr => ?_)
  have nd := sc__law_rates.nd
  refine ⟨_, _, (qss_one (qs_ret (qe_callTyK K ac_tuple call_tuple_of rfl B.f_tuple (by decide +kernel) (qa_cons (qe_lc (i := 3) rfl nd (qi_seqK K (qe_ixK K (qe_var (i := 1) rfl (by first | exact .inl rfl | exact .inr (.inl rfl) | exact .inr (.inr rfl))) qe_int)) (blkOk_by (by kernel_rfl)) (fun _ _ _ _ _ => pg_name (i := 3) nd rfl (Or.inl rfl)) (fun _ _ _ _ _ => qts_nil) (fun _ _ _ _ _ => (qe_callTyK K ac_tuple call_tuple_of rfl B.f_tuple (by decide +kernel) (qa_cons (qe_lc (i := 2) rfl nd (qi_seqK K (qe_var (i := 3) rfl (by first | exact .inl rfl | exact .inr (.inl rfl) | exact .inr (.inr rfl)))) (blkOk_by (by kernel_rfl)) (fun _ _ _ _ _ => pg_name (i := 2) nd rfl (Or.inl rfl)) (fun _ _ _ _ _ => qts_nil) (fun _ _ _ _ _ => (qe_callK K c__law_price hr (by decide) rfl (qa_cons (qe_var (i := 0) rfl (by first | exact .inl rfl | exact .inr (.inl rfl) | exact .inr (.inr rfl))) qa_nil)))) qa_nil)))) qa_nil)))), fun vs M Q h => ?_⟩
  obtain ⟨d, h, rfl, hd, hl, kQ⟩ := h
  walk_at "s"
  obtain ⟨rd, near, lots, modes⟩ := h
  refine i4 ?_
  dsimp only at hl ⊢
  refine lc_any trivial (fun k acc => ∃ rates : List (List (Int × Int)), acc = rates.map Prs ∧ RatesOk (modes.take k) rates) ⟨[], rfl, rfl, fun _ h => (by cases h), fun _ h => (by cases h)⟩ (fun k acc hk g => ?_) (fun k acc M' hk l _ g => ?_) (fun acc a M2 g na l m => ?_)
  · obtain ⟨rates, rfl, h1, h2, h2'⟩ := g
    have h3 := congrArg List.length h1
    rw [List.length_map, List.length_map, List.length_take] at h3
    rw [List.length_map]
    exact sz _ (by omega)
  · obtain ⟨rates, rfl, h1, h2, h2'⟩ := g
    have hk' : k < modes.length := by
      have : k < (modes.map Mt).length := hk
      rw [List.length_map] at this
      exact this
    obtain ⟨m, e, hm⟩ := mem_get hk'
    have e2 : (seqIt (modes.map Mt)).item k = Mt m := item_seq (by rw [List.getElem?_map, e]; rfl)
    rw [e2]
    walk_at "s"
    refine lc_seq (fun y => ∃ c : Int × Int, y = Pr c ∧ (PrOk c.1 c.2 ∧ c.2 ≤ c.1)) (szl _ (by rw [List.length_map]; have := hl.2 m hm; omega)) (fun j x acc2 M3 e3 hx l3 g3 => ?_) (fun acc2 b M3 g3 nb l3 m3 => ?_)
    · walk_at "s"
      exact ⟨d, rfl, l3 _ _ (l _ _ hd), fun n e hp hg => ⟨Le.refl, fun _ _ _ => g3.snoc ⟨(n, e), rfl, hp, hg⟩⟩⟩
    · obtain ⟨cs, rfl, c2⟩ := all_of g3.2
      have c1 := g3.1
      rw [List.length_map, List.length_map] at c1
      refine tup_l m3 ⟨l3, fun _ _ _ => ⟨rates ++ [cs], by rw [List.map_append]; rfl, ?_, app_ok h2 fun x hx => by rw [List.mem_singleton.mp hx]; exact fun c hc => (c2 c hc).1, app_ok h2' fun x hx => by rw [List.mem_singleton.mp hx]; exact fun c hc => (c2 c hc).2⟩⟩
      rw [List.map_append, h1, List.take_succ, List.map_append, e]
      simp [c1]
  · obtain ⟨rates, rfl, h1⟩ := g
    rw [show (seqIt (modes.map Mt)).n = modes.length from List.length_map .., List.take_length] at h1
    exact tup_l m ⟨M, l, kQ rates h1⟩
/-- what may be paid at most -/
def BudOk (n d : Int) : Prop := n.natAbs < 2 ^ 1000 ∧ 0 < d ∧ d.natAbs < 2 ^ 100
def sp_budget : PSp := fun ps M Q => ∃ (d : Addr) (rates : List (List (Int × Int))), ps = [.ref d, .tup (rates.map Prs)] ∧ M d = some .drw ∧ (rates.length < 100 ∧ ∀ r ∈ rates, r.length < 100) ∧ (∀ cs ∈ rates, ∀ c ∈ cs, PrOk c.1 c.2 ∧ c.2 ≤ c.1) ∧ ∀ n e, BudOk n e → e ≤ n → Q (fr n e) M
theorem sp_budget_len : ∀ vs M Q, sp_budget vs M Q → vs.length = 2 := fun vs M Q ⟨a, b, e', _⟩ => by rw [e']; rfl
theorem nlt {i : Int} {a b : Nat} (h : i.natAbs < 2 ^ a) (l : a ≤ b) : i.natAbs < 2 ^ b := Nat.lt_of_lt_of_le h (Nat.pow_le_pow_right (by decide) l)
theorem PrOk.frb {n d : Int} (h : PrOk n d) : FrB n d := ⟨nlt h.1.2 (by decide), h.2.1, Nat.lt_of_lt_of_le (m := 2 ^ 3) (by have := h.2.2; have := h.2.1; omega) (Nat.pow_le_pow_right (by decide) (by decide))⟩
theorem BudOk.frb {n d : Int} (h : BudOk n d) : FrB n d := ⟨nlt h.1 (by decide), h.2.1, nlt h.2.2 (by decide)⟩
/-- at most so many bits -/
def Bt (a b : Nat) (n d : Int) : Prop := n.natAbs < 2 ^ a ∧ 0 < d ∧ d.natAbs < 2 ^ b
theorem Bt.frb {a b : Nat} {n d : Int} (h : Bt a b n d) (ha : a ≤ 200000) (hb : b ≤ 4000) : FrB n d := ⟨nlt h.1 ha, h.2.1, nlt h.2.2 hb⟩
theorem Bt.up {a b a2 b2 : Nat} {n d : Int} (h : Bt a b n d) (ha : a ≤ a2) (hb : b ≤ b2) : Bt a2 b2 n d := ⟨nlt h.1 ha, h.2.1, nlt h.2.2 hb⟩
theorem Bt.nfr {a b : Nat} {n d : Int} (h : Bt a b n d) : Bt a b (n / (Int.gcd n d : Int)) (d / (Int.gcd n d : Int)) := by
  obtain ⟨⟨x, y⟩, z, _⟩ := nfr_div (n := n) h.2.1
  have := h.1
  have := h.2.2
  exact ⟨by omega, x, by omega⟩
theorem Bt.mul {a b c e : Nat} {n d m f : Int} (h : Bt a b n d) (g : Bt c e m f) : Bt (a + c) (b + e) (n * m) (d * f) := ⟨mul_lt h.1 g.1, Int.mul_pos h.2.1 g.2.1, mul_lt h.2.2 g.2.2⟩
theorem add_lt {i j : Int} {a : Nat} (h : i.natAbs < 2 ^ a) (g : j.natAbs < 2 ^ a) : (i + j).natAbs < 2 ^ (a + 1) := by
  rw [Nat.pow_succ]
  omega
theorem sub_lt {i j : Int} {a : Nat} (h : i.natAbs < 2 ^ a) (g : j.natAbs < 2 ^ a) : (i - j).natAbs < 2 ^ (a + 1) := by
  rw [Nat.pow_succ]
  omega
theorem PrOk.bt {n d : Int} (h : PrOk n d) : Bt 140 3 n d := ⟨h.1.2, h.2.1, by have := h.2.2; have := h.2.1; omega⟩
abbrev s__law_budget : Stmt := top 143
theorem sc__law_budget : FnScope ["d", "rates", "costs", "row", "found", "k", "less"] ["d", "rates"] (defScope s__law_budget) := ⟨rfl, rfl, rfl, by decide +kernel, rfl, by decide +kernel, by decide +kernel⟩
theorem c__law_budget (F : Std K mg "_law_budget" s__law_budget) (B : BFree mg) (c__law_draw : C8.Cal P w K mg base 1 "_law_draw" (toSp K sp_draw) []) (c__law_great : C8.Cal P w K mg base 2 "_law_great" (toSp K sp_great) []) (c__law_minus : C8.Cal P w K mg base 3 "_law_minus" (toSp K sp_minus) []) (c__law_pick : C8.Cal P w K mg base 2 "_law_pick" (toSp K sp_pick) []) (c__law_plus : C8.Cal P w K mg base 3 "_law_plus" (toSp K sp_plus) []) (c__law_times : C8.Cal P w K mg base 3 "_law_times" (toSp K sp_times) []) : C8.Cal P w K mg base 4 "_law_budget" (toSp K sp_budget) [] := by
  refine F.cal sc__law_budget sp_budget_len (fun _ _ _ _ _ _ us hl => match us, hl with | [_, _], _ => rfl) (fun f cdv A outer s H E hr => ?_)
  have nd := sc__law_budget.nd
  refine ⟨_, _, (qss_cons (qs_set (i := 2) nd rfl (by first | exact .inl rfl | exact .inr rfl) (qe_lst qa_nil))
      (qss_cut (qs_for PassesOwn.never rfl (qi_seqK K (qe_var (i := 1) rfl (by first | exact .inl rfl | exact .inr (.inl rfl) | exact .inr (.inr rfl)))) (qg_name (i := 3) nd rfl (by first | exact .inl rfl | exact .inr rfl)) (qss_one (qs_expr (qe_bmLK K PySem.F.plainAttrs_list PySem.F.slot_list_extend PySem.F.type_list_extend am_extend mt_extendA (qe_var (i := 2) rfl (by first | exact .inl rfl | exact .inr (.inl rfl) | exact .inr (.inr rfl))) (qa_cons (qe_var (i := 3) rfl (by first | exact .inl rfl | exact .inr (.inl rfl) | exact .inr (.inr rfl))) qa_nil)))))
      (qss_cons (qs_set (i := 4) nd rfl (by first | exact .inl rfl | exact .inr rfl) (qe_tup (qa_cons qe_int (qa_cons qe_int qa_nil))))
      (qss_cut (qs_for PassesOwn.never rfl (qi_rng1 rfl B.f_range (qa_cons (qe_ifExp (qt_gt (qe_callBK K ac_len call_len rfl B.f_len PySem.boot_len (qa_cons (qe_var (i := 2) rfl (by first | exact .inl rfl | exact .inr (.inl rfl) | exact .inr (.inr rfl))) qa_nil)) qe_int) (qe_callK K c__law_draw hr (by decide) rfl (qa_cons (qe_var (i := 0) rfl (by first | exact .inl rfl | exact .inr (.inl rfl) | exact .inr (.inr rfl))) (qa_cons qe_int qa_nil))) qe_int) qa_nil)) (qg_name (i := 5) nd rfl (by first | exact .inl rfl | exact .inr rfl)) (qss_one (qs_set (i := 4) nd rfl (by first | exact .inl rfl | exact .inr rfl) (qe_callK K c__law_times hr (by decide) rfl (qa_cons (qe_var (i := 4) rfl (by first | exact .inl rfl | exact .inr (.inl rfl) | exact .inr (.inr rfl))) (qa_cons (qe_callK K c__law_pick hr (by decide) rfl (qa_cons (qe_var (i := 0) rfl (by first | exact .inl rfl | exact .inr (.inl rfl) | exact .inr (.inr rfl))) (qa_cons (qe_var (i := 2) rfl (by first | exact .inl rfl | exact .inr (.inl rfl) | exact .inr (.inr rfl))) qa_nil))) qa_nil))))))
      (qss_cons (qs_set (i := 6) nd rfl (by first | exact .inl rfl | exact .inr rfl) (qe_callK K c__law_great hr (by decide) rfl (qa_cons (qe_lst (qa_cons (qe_tup (qa_cons qe_int (qa_cons qe_int qa_nil))) (qa_cons (qe_callK K c__law_minus hr (by decide) rfl (qa_cons (qe_var (i := 4) rfl (by first | exact .inl rfl | exact .inr (.inl rfl) | exact .inr (.inr rfl))) (qa_cons (qe_tup (qa_cons qe_int (qa_cons qe_int qa_nil))) qa_nil))) qa_nil))) qa_nil)))
      (qss_one (qs_ret (qe_callK K c__law_pick hr (by decide) rfl (qa_cons (qe_var (i := 0) rfl (by first | exact .inl rfl | exact .inr (.inl rfl) | exact .inr (.inr rfl))) (qa_cons (qe_lst (qa_cons (qe_var (i := 4) rfl (by first | exact .inl rfl | exact .inr (.inl rfl) | exact .inr (.inr rfl))) (qa_cons (qe_var (i := 6) rfl (by first | exact .inl rfl | exact .inr (.inl rfl) | exact .inr (.inr rfl))) (qa_cons (qe_var (i := 4) rfl (by first | exact .inl rfl | exact .inr (.inl rfl) | exact .inr (.inr rfl))) (qa_cons (qe_callK K c__law_plus hr (by decide) rfl (qa_cons (qe_var (i := 4) rfl (by first | exact .inl rfl | exact .inr (.inl rfl) | exact .inr (.inr rfl))) (qa_cons (qe_tup (qa_cons qe_int (qa_cons qe_int qa_nil))) qa_nil))) (qa_cons (qe_callK K c__law_times hr (by decide) rfl (qa_cons (qe_var (i := 4) rfl (by first | exact .inl rfl | exact .inr (.inl rfl) | exact .inr (.inr rfl))) (qa_cons (qe_tup (qa_cons (qe_pow qe_int qe_int) (qa_cons qe_int qa_nil))) qa_nil))) qa_nil)))))) qa_nil)))))))))), fun vs M Q h => ?_⟩
  obtain ⟨d, rates, rfl, hd, hl, hp, kQ⟩ := h
  walk_at "s"
  intro a M1 na l1 m1
  refine ⟨fun ρ M' => ∃ (cs : List (Int × Int)) (u : Option CR.P), ρ = [some (.ref d), some (.tup (rates.map Prs)), some (.ref a), u, none, none, none] ∧ cs.length ≤ 100 * 100 ∧ (∀ c ∈ cs, PrOk c.1 c.2 ∧ c.2 ≤ c.1) ∧ Le M M' ∧ M' a = some (.lst (cs.map Pr)), ?_, ?_⟩
  · refine for_seq (fun k ρ M' => ∃ (cs : List (Int × Int)) (u : Option CR.P), ρ = [some (.ref d), some (.tup (rates.map Prs)), some (.ref a), u, none, none, none] ∧ cs.length ≤ 100 * k ∧ (∀ c ∈ cs, PrOk c.1 c.2 ∧ c.2 ≤ c.1) ∧ Le M M' ∧ M' a = some (.lst (cs.map Pr))) ⟨[], _, rfl, by simp, fun _ h => (by cases h), l1, m1⟩ (fun k x ρ M5 e hx ⟨cs, u, eρ, h1, h2, h3, h4⟩ => ?_) (fun ρ M5 ⟨cs, u, eρ, h1, h2, h3, h4⟩ => ?_)
    · subst eρ
      obtain ⟨r, hr, rfl⟩ := List.mem_map.mp hx
      have hk := (List.getElem?_eq_some_iff.mp e).1
      rw [List.length_map] at hk
      have := hl.2 r hr
      walk_at "s"
      rw [h4]
      refine extT_ h4 (szl _ (by rw [List.length_map, List.length_map]; omega)) (fun M' lx m' => ⟨cs ++ r, _, rfl, by rw [List.length_append]; omega, app_ok h2 (hp r hr), h3.x na lx, by rw [List.map_append]; exact m'⟩)
    · rw [List.length_map] at h1
      exact ⟨cs, u, eρ, by omega, h2, h3, h4⟩
  rintro ρ M5 ⟨cs, u, rfl, h1, h2, h3, h4⟩
  walk_at "s"
  have lp : ∀ n : Int, (0 ≤ n ∧ n ≤ 5) → (0 < n → 0 < cs.length) → (-2 ^ 62 ≤ n ∧ n < 2 ^ 62) ∧ ForB (rngIt 0 n.toNat) M5 (fGName 5) (fAsg (fCall sp_times (fCons (fVar 4) (fCons (fCall sp_pick (fCons (fVar 0) (fCons (fVar 2) fNil))) fNil))) (fGName 4))
      { nx := fun ρ M' => M' = M5 ∧ ∃ n e v, (Bt 701 16 n e ∧ e ≤ n) ∧ ρ = [some (.ref d), some (.tup (rates.map Prs)), some (.ref a), u, some (fr n e), v, none], rt := fun p M' => ∃ M'', Le M'' M' ∧ Q p M'' } [some (.ref d), some (.tup (rates.map Prs)), some (.ref a), u, some (.tup [.int 1, .int 1]), none, none] := fun n hn hc => by
    refine ⟨⟨by omega, by omega⟩, for_rng (fun k ρ M' => M' = M5 ∧ ∃ n e v, (Bt (140 * k + 1) (3 * k + 1) n e ∧ e ≤ n) ∧ ρ = [some (.ref d), some (.tup (rates.map Prs)), some (.ref a), u, some (fr n e), v, none]) ⟨rfl, 1, 1, none, ⟨by unfold Bt; decide, by decide⟩, rfl⟩ (fun k ρ M' hk ⟨e0, x, y, v, ⟨hb, hge⟩, eρ⟩ => ?_) (fun ρ M' ⟨e0, x, y, v, ⟨hb, hge⟩, eρ⟩ => ⟨e0, x, y, v, ⟨hb.up (by omega) (by omega), hge⟩, eρ⟩)⟩
    subst e0 eρ
    walk_at "s"
    refine ⟨d, _, cs.map Pr, rfl, h3 _ _ hd, .inr ⟨a, rfl, h4⟩, ?_, by rw [List.length_map]; omega, fun z hz => ?_⟩
    · intro e
      have h0 := congrArg List.length e
      rw [List.length_map, List.length_nil] at h0
      have := hc (by omega)
      omega
    · obtain ⟨c, hc2, rfl⟩ := List.mem_map.mp hz
      obtain ⟨hp2, hp3⟩ := h2 c hc2
      exact ⟨x, y, c.1, c.2, rfl, hb.frb (by omega) (by omega), hp2.frb, rfl, _, _, _, ⟨((hb.mul hp2.bt).nfr).up (by omega) (by omega), ge_nfr (Int.mul_pos hb.2.1 hp2.2.1) (Int.mul_le_mul hge hp3 (Int.le_of_lt hp2.2.1) (by have := hb.2.1; omega))⟩, rfl⟩
  refine ⟨fun ρ M' => M' = M5 ∧ ∃ n e v, (Bt 701 16 n e ∧ e ≤ n) ∧ ρ = [some (.ref d), some (.tup (rates.map Prs)), some (.ref a), u, some (fr n e), v, none], ?_, ?_⟩
  · refine len_l h4 ?_
    rw [List.length_map]
    refine ⟨fun h5 => ?_, fun h5 => lp 0 (by decide) (fun h => absurd h (by decide))⟩
    have := of_decide_eq_true h5
    exact dr (h3 _ _ hd) (by decide) (by decide) (fun x hx => lp x (by omega) (fun _ => by omega))
  · rintro ρ M' ⟨rfl, n, e, v, ⟨hb, hge⟩, rfl⟩
    walk_at "s"
    have c1 : FrB 1 1000 := ⟨nlt (a := 1) (by decide) (by decide), by decide, nlt (a := 10) (by decide) (by decide)⟩
    have c2 : FrB 1 1 := ⟨nlt (a := 1) (by decide) (by decide), by decide, nlt (a := 10) (by decide) (by decide)⟩
    have c3 : FrB 1 7 := ⟨nlt (a := 1) (by decide) (by decide), by decide, nlt (a := 10) (by decide) (by decide)⟩
    have c4 : Bt 20 1 ((10 : Int) ^ (6 : Int).toNat) 1 := by unfold Bt; decide
    have hf := hb.frb (by decide) (by decide)
    have k1 : Bt 712 26 (n * 1000 - 1 * e) (e * 1000) := ⟨sub_lt (a := 711) (mul_lt (a := 701) (b := 10) hb.1 (by decide)) (nlt (mul_lt (a := 1) (b := 16) (by decide) hb.2.2) (by decide)), Int.mul_pos hb.2.1 (by decide), mul_lt (a := 16) (b := 10) hb.2.2 (by decide)⟩
    have k2 : Bt 712 26 (n * 7 + 1 * e) (e * 7) := ⟨add_lt (a := 711) (mul_lt (a := 701) (b := 10) hb.1 (by decide)) (nlt (mul_lt (a := 1) (b := 16) (by decide) hb.2.2) (by decide)), Int.mul_pos hb.2.1 (by decide), mul_lt (a := 16) (b := 10) hb.2.2 (by decide)⟩
    have bo : ∀ {x y : Int} {p q : Nat}, Bt p q x y → p ≤ 1000 → q ≤ 100 → BudOk x y := fun h hp hq => ⟨nlt h.1 hp, h.2.1, nlt h.2.2 hq⟩
    refine ⟨n, e, 1, 1000, rfl, hf, c1, fun b M6 nb l6 m6 => ?_⟩
    refine ⟨b, 1, 1, _, _, rfl, m6, c2, k1.nfr.frb (by decide) (by decide), ?_⟩
    obtain ⟨gn, gd, eg, hg⟩ : ∃ gn gd, (if 1 * ((e * 1000) / (Int.gcd (n * 1000 - 1 * e) (e * 1000) : Int)) < ((n * 1000 - 1 * e) / (Int.gcd (n * 1000 - 1 * e) (e * 1000) : Int)) * 1 then fr ((n * 1000 - 1 * e) / (Int.gcd (n * 1000 - 1 * e) (e * 1000) : Int)) ((e * 1000) / (Int.gcd (n * 1000 - 1 * e) (e * 1000) : Int)) else fr 1 1) = fr gn gd ∧ (BudOk gn gd ∧ gd ≤ gn) := by
      split
      · rename_i hif
        exact ⟨_, _, rfl, bo k1.nfr (by decide) (by decide), by omega⟩
      · exact ⟨_, _, rfl, by unfold BudOk; decide, by decide⟩
    rw [eg]
    refine ⟨n, e, 1, 7, rfl, hf, c3, ⟨by decide, by decide, by decide⟩, n, e, _, 1, rfl, hf, c4.frb (by decide) (by decide), fun c M7 nc l7 m7 => ?_⟩
    refine ⟨d, _, _, rfl, l7 _ _ (l6 _ _ (h3 _ _ hd)), .inr ⟨c, rfl, m7⟩, by simp, by simp, fun y hy => ⟨M, (h3.trans l6).trans l7, ?_⟩⟩
    simp only [List.mem_cons, List.not_mem_nil, or_false] at hy
    rcases hy with rfl | rfl | rfl | rfl | rfl
    · exact kQ _ _ (bo hb (by decide) (by decide)) hge
    · exact kQ _ _ hg.1 hg.2
    · exact kQ _ _ (bo hb (by decide) (by decide)) hge
    · exact kQ _ _ (bo k2.nfr (by decide) (by decide)) (ge_nfr k2.2.1 (by have := hb.2.1; omega))
    · exact kQ _ _ (bo (hb.mul c4).nfr (by decide) (by decide)) (ge_nfr (hb.mul c4).2.1 (Int.mul_le_mul hge (by decide) (by decide) (by have := hb.2.1; omega)))
end
end CR

set_option Elab.async false
set_option linter.all false
set_option maxRecDepth 100000
set_option maxHeartbeats 4000000
set_option exponentiation.threshold 300000
namespace CR
open PySem PySem.Spec L2
local macro_rules | `(tactic| walk_at "s") => `(tactic| dsimp only [fRet, fSeq, fCut, fAsg, fDrop, fIfS, fNext, fBreak, fCont, fVar, fC, fOp, fCall, fCons, fNil, fCB, fBMS, fBML, fTup, fLst, fTest, fNot, fAnd, fOr, fAndV, fOrV, fNotV, fIf, fNeg, fChain, fGName, fGTup, fGCons, fGNil, fAugI, fSl, fPart, fNoPart, fRevL, fLstRg, fRepl, fFld, fSFld, fMeth, fProp, fPropSet, fMake, fMakeV, fCMeth, fGSub, fAugSub, fISeq, fIStr, fIRng1, fIRng2, fFor, fWhile, fLc, fYes, fIsi, fOf, fSeqX, fIfX, fRaise, fSetMX, fTry, fFldX, fIsX, fCMK, fMD, nth, lawS, startP, setS, clrS, wipeS, fnEnds, pI0, pI])
local macro_rules | `(tactic| walk_at "d") => `(tactic| try dsimp only)
section
variable {P : Program} {w : World} {K : PySem.W.Frag} {mg : Str → Option Value} {base : Heap}
def sp_anyhouse : PSp := fun ps M Q => ∃ (d : Addr), ps = [.ref d] ∧ M d = some .drw ∧ ∀ h : Hs, h.Ok2 → Q h.p M
theorem sp_anyhouse_len : ∀ vs M Q, sp_anyhouse vs M Q → vs.length = 1 := fun vs M Q ⟨a, e', _⟩ => by rw [e']; rfl
theorem map_cons_I {n : Nat} {ns : List Nat} {x : CR.P} (hx : x = I n) : x :: ns.map I = (n :: ns).map I := by rw [hx]; rfl
theorem sum_ne {n : Nat} {ns : List Nat} (h : 0 < n) : (n :: ns).sum ≠ 0 := by rw [List.sum_cons]; omega
abbrev s__law_broad : Stmt := top 138
theorem sc__law_broad : FnScope ["d", "great", "asks", "x", "many", "rows", "a", "reader"] ["d"] (defScope s__law_broad) := ⟨rfl, rfl, rfl, by decide +kernel, rfl, by decide +kernel, by decide +kernel⟩
theorem c__law_broad (F : Std K mg "_law_broad" s__law_broad) (B : BFree mg) (c__law_draw : C8.Cal P w K mg base 1 "_law_draw" (toSp K sp_draw) []) (c__law_row : C8.Cal P w K mg base 2 "_law_row" (toSp K sp_row) []) : C8.Cal P w K mg base 3 "_law_broad" (toSp K sp_anyhouse) [] := by
  refine F.cal sc__law_broad sp_anyhouse_len (fun _ _ _ _ _ _ us hl => match us, hl with | [_], _ => rfl) (fun f cdv A outer s H E hr => ?_)
  have nd := sc__law_broad.nd
  refine ⟨_, _, (qss_cut (qs_set (i := 1) nd rfl (by first | exact .inl rfl | exact .inr rfl) (qe_ifExp (qt_eqK K hr.units (qe_callK K c__law_draw hr (by decide) rfl (qa_cons (qe_var (i := 0) rfl (by first | exact .inl rfl | exact .inr (.inl rfl) | exact .inr (.inr rfl))) (qa_cons qe_int qa_nil))) qe_int (nomark _)) (qe_pow qe_int qe_int) qe_int))
      (qss_cons (qs_set (i := 2) nd rfl (by first | exact .inl rfl | exact .inr rfl) (qe_lst qa_nil))
      (qss_cut (qs_for PassesOwn.never rfl (qi_rng1 rfl B.f_range (qa_cons qe_int qa_nil)) (qg_name (i := 3) nd rfl (by first | exact .inl rfl | exact .inr rfl)) (qss_cut (qs_set (i := 4) nd rfl (by first | exact .inl rfl | exact .inr rfl) (qe_ifExp (qt_eqK K hr.units (qe_var (i := 3) rfl (by first | exact .inl rfl | exact .inr (.inl rfl) | exact .inr (.inr rfl))) qe_int (nomark _)) qe_int (qe_plusK K qe_int (qe_callK K c__law_draw hr (by decide) rfl (qa_cons (qe_var (i := 0) rfl (by first | exact .inl rfl | exact .inr (.inl rfl) | exact .inr (.inr rfl))) (qa_cons qe_int qa_nil))))))
      (qss_cons (qs_set (i := 5) nd rfl (by first | exact .inl rfl | exact .inr rfl) (qe_lst (qa_cons (qe_callK K c__law_row hr (by decide) rfl (qa_cons (qe_var (i := 0) rfl (by first | exact .inl rfl | exact .inr (.inl rfl) | exact .inr (.inr rfl))) (qa_cons (qe_var (i := 4) rfl (by first | exact .inl rfl | exact .inr (.inl rfl) | exact .inr (.inr rfl))) (qa_cons qe_int (qa_cons qe_bl qa_nil))))) (qa_cons (qe_callK K c__law_row hr (by decide) rfl (qa_cons (qe_var (i := 0) rfl (by first | exact .inl rfl | exact .inr (.inl rfl) | exact .inr (.inr rfl))) (qa_cons (qe_var (i := 4) rfl (by first | exact .inl rfl | exact .inr (.inl rfl) | exact .inr (.inr rfl))) (qa_cons qe_int (qa_cons qe_bl qa_nil))))) qa_nil))))
      (qss_cut (qs_if (qt_eqK K hr.units (qe_var (i := 3) rfl (by first | exact .inl rfl | exact .inr (.inl rfl) | exact .inr (.inr rfl))) qe_int (nomark _)) (qss_one (qs_asg (qe_plusK K (qe_tup (qa_cons (qe_var (i := 1) rfl (by first | exact .inl rfl | exact .inr (.inl rfl) | exact .inr (.inr rfl))) qa_nil)) (qe_sliceK K (qe_ixK K (qe_var (i := 5) rfl (by first | exact .inl rfl | exact .inr (.inl rfl) | exact .inr (.inr rfl))) qe_int) (qo_some qe_int) qo_none)) (qg_sub (qe_var (i := 5) rfl (by first | exact .inl rfl | exact .inr (.inl rfl) | exact .inr (.inr rfl))) qe_int))) qss_nil)
      (qss_one (qs_expr (qe_bmLK K PySem.F.plainAttrs_list PySem.F.slot_list_append PySem.F.type_list_append am_append mt_append (qe_var (i := 2) rfl (by first | exact .inl rfl | exact .inr (.inl rfl) | exact .inr (.inr rfl))) (qa_cons (qe_tup (qa_cons qe_str (qa_cons (qe_callTyK K ac_tuple call_tuple_of rfl B.f_tuple (by decide +kernel) (qa_cons (qe_var (i := 5) rfl (by first | exact .inl rfl | exact .inr (.inl rfl) | exact .inr (.inr rfl))) qa_nil)) (qa_cons (qe_callTyK K ac_tuple call_tuple_of rfl B.f_tuple (by decide +kernel) (qa_cons (qe_lc (i := 6) rfl nd (qi_rng1 rfl B.f_range (qa_cons (qe_var (i := 4) rfl (by first | exact .inl rfl | exact .inr (.inl rfl) | exact .inr (.inr rfl))) qa_nil)) (blkOk_by (by kernel_rfl)) (fun _ _ _ _ _ => pg_name (i := 6) nd rfl (Or.inl rfl)) (fun _ _ _ _ _ => qts_nil) (fun _ _ _ _ _ => (qe_tup (qa_cons (qe_callK K c__law_draw hr (by decide) rfl (qa_cons (qe_var (i := 0) rfl (by first | exact .inl rfl | exact .inr (.inl rfl) | exact .inr (.inr rfl))) (qa_cons qe_int qa_nil))) (qa_cons qe_int qa_nil))))) qa_nil)) qa_nil)))) qa_nil))))))))
      (qss_cons (qs_set (i := 7) nd rfl (by first | exact .inl rfl | exact .inr rfl) (qe_tup (qa_cons qe_str (qa_cons (qe_tup (qa_cons (qe_tup (qa_cons qe_int (qa_cons qe_int qa_nil))) (qa_cons (qe_tup (qa_cons qe_int (qa_cons qe_int qa_nil))) qa_nil))) qa_nil))))
      (qss_one (qs_ret (qe_tup (qa_cons qe_str (qa_cons (qe_var (i := 7) rfl (by first | exact .inl rfl | exact .inr (.inl rfl) | exact .inr (.inr rfl))) (qa_cons (qe_tup (qa_cons (qe_tup (qa_cons qe_str (qa_cons qe_int qa_nil))) (qa_cons (qe_tup (qa_cons qe_str (qa_cons qe_int (qa_cons qe_int qa_nil)))) qa_nil))) (qa_cons (qe_tup (qa_cons qe_int qa_nil)) (qa_cons (qe_tup (qa_cons (qe_callTyK K ac_tuple call_tuple_of rfl B.f_tuple (by decide +kernel) (qa_cons (qe_var (i := 2) rfl (by first | exact .inl rfl | exact .inr (.inl rfl) | exact .inr (.inr rfl))) qa_nil)) (qa_cons (qe_tup (qa_cons (qe_ixK K (qe_var (i := 2) rfl (by first | exact .inl rfl | exact .inr (.inl rfl) | exact .inr (.inr rfl))) (qe_callK K c__law_draw hr (by decide) rfl (qa_cons (qe_var (i := 0) rfl (by first | exact .inl rfl | exact .inr (.inl rfl) | exact .inr (.inr rfl))) (qa_cons qe_int qa_nil)))) qa_nil)) qa_nil))) qa_nil)))))))))))), fun vs M Q h => ?_⟩
  obtain ⟨d, rfl, hd, kQ⟩ := h
  walk_at "s"
  refine ⟨fun ρ M' => M' = M ∧ ∃ g : Nat, (0 < g ∧ g < 2 ^ 200) ∧ ρ = [some (.ref d), some (.int g), none, none, none, none, none, none], dr hd (by decide) (by decide) (fun x hx => ⟨fun _ => ⟨⟨by decide, by decide, by decide⟩, rfl, 10 ^ 40, ⟨by decide, Nat.lt_of_lt_of_le (m := 2 ^ 140) (by decide) (Nat.pow_le_pow_right (by decide) (by decide))⟩, rfl⟩, fun _ => ⟨rfl, 7, ⟨by decide, Nat.lt_of_lt_of_le (m := 2 ^ 3) (by decide) (Nat.pow_le_pow_right (by decide) (by decide))⟩, rfl⟩⟩), ?_⟩
  rintro ρ M' ⟨rfl, g, hg, rfl⟩
  walk_at "s"
  intro a M1 na l1 m1
  refine ⟨fun ρ M2 => ∃ (qs : List Qn) (u v w z : Option CR.P), ρ = [some (.ref d), some (.int g), some (.ref a), u, v, w, z, none] ∧ qs.length = 8 ∧ (∀ q ∈ qs, q.Ok 2 1 2) ∧ Le M' M2 ∧ M2 a = some (.lst (qs.map Qn.p)), ⟨by decide, ?_⟩, ?_⟩
  · refine for_rng (fun k ρ M2 => ∃ (qs : List Qn) (u v w z : Option CR.P), ρ = [some (.ref d), some (.int g), some (.ref a), u, v, w, z, none] ∧ qs.length = k ∧ (∀ q ∈ qs, q.Ok 2 1 2) ∧ Le M' M2 ∧ M2 a = some (.lst (qs.map Qn.p))) ⟨[], _, _, _, _, rfl, rfl, fun _ h => (by cases h), l1, m1⟩ (fun k ρ M2 hk ⟨qs, u, v, w, z, eρ, h1, h2, h3, h4⟩ => ?_) (fun ρ M2 h => h)
    subst eρ
    walk_at "s"
    refine ⟨fun ρ M3 => M3 = M2 ∧ ∃ many : Int, (0 < many ∧ many ≤ 12) ∧ ρ = [some (.ref d), some (.int g), some (.ref a), some (.int (0 + (k : Int))), some (.int many), w, z, none], ⟨fun _ => ⟨rfl, 12, by decide, rfl⟩, fun _ => dr (h3 _ _ hd) (by decide) (by decide) (fun x hx => cat_i ⟨rfl, _, ⟨by omega, by omega⟩, rfl⟩)⟩, ?_⟩
    rintro ρ M3 ⟨rfl, many, hm, rfl⟩
    walk_at "s"
    have hd3 := h3 _ _ hd
    refine ⟨d, many, 9, false, rfl, hd3, ⟨by omega, by omega⟩, by decide, fun n1 x1 x2 => ⟨d, many, 9, false, rfl, hd3, ⟨by omega, by omega⟩, by decide, fun n2 y1 y2 => ?_⟩⟩
    intro b M4 nb l4 m4
    have ba : a ≠ b := fun e => by rw [e, nb] at h4; cases h4
    have nb0 : M' b = none := h3.none nb
    refine ⟨fun ρ M5 => ∃ n3 : List Nat, n3.length = many.toNat ∧ NzB n3 ∧ Le M' M5 ∧ M5 a = some (.lst (qs.map Qn.p)) ∧ M5 b = some (.lst [It n3, It n2]) ∧ ρ = [some (.ref d), some (.int g), some (.ref a), some (.int (0 + (k : Int))), some (.int many), some (.ref b), z, none], ⟨fun _ => ?_, fun _ => ⟨n1, x1, x2, h3.trans l4, l4 _ _ h4, m4, rfl⟩⟩, ?_⟩
    · refine ix_l (y := It n1) m4 (by decide) rfl (sl_t (cat_t (szl _ ?_) ?_))
      · show 1 + (cutP _ _ _).length < _
        cases n1 with
        | nil => exact absurd rfl x2.1
        | cons v vs =>
          rw [List.map_cons, cut1, List.length_map]
          rw [List.length_cons] at x1
          omega
      · rw [m4]
        refine ⟨0, rfl, fun M5 lx m5 => ?_⟩
        cases n1 with
        | nil => exact absurd rfl x2.1
        | cons v vs =>
          rw [List.map_cons, cut1] at m5
          exact ⟨g :: vs, by rw [← x1]; rfl, ⟨sum_ne hg.1, fun n hn => by
            rcases List.mem_cons.mp hn with rfl | hn
            · exact hg.2
            · exact x2.2 n (List.mem_cons_of_mem _ hn)⟩, (h3.trans l4).x nb0 lx, lx _ _ ba (l4 _ _ h4), m5, rfl⟩
    · rintro ρ M5 ⟨n3, z1, z2, l5, m5, m6, rfl⟩
      walk_at "s"
      rw [m5]
      refine tup_l m6 ⟨⟨by omega, by omega⟩, lc_rng (fun y => ∃ gg : Nat × Nat, y = .tup [I gg.1, I gg.2] ∧ GoOk 2 gg) (szl _ (by omega)) (fun j acc M6 hj l6 g6 => ?_) (fun acc c M6 g6 nc l6 m7 => ?_)⟩
      · walk_at "s"
        exact dr (l6 _ _ (l5 _ _ hd)) (by decide) (by decide) (fun x hx => ⟨Le.refl, fun _ _ _ => g6.snoc ⟨(x, 0), rfl, by show x < 2; omega, by show 0 ≤ 1; omega⟩⟩)
      · obtain ⟨gs, rfl, g2⟩ := all_of g6.2
        have g1 := g6.1
        rw [List.length_map] at g1
        refine tup_l m7 (app_ (l6 _ _ m5) (sz _ (by rw [List.length_map]; omega)) (fun M7 lx m8 => ⟨qs ++ [⟨false, [n3, n2], gs⟩], _, _, _, _, rfl, by rw [List.length_append, h1]; rfl, app_ok h2 fun q hq => ?_, (l5.trans l6).x na lx, by rw [List.map_append]; exact m8⟩))
        rw [List.mem_singleton.mp hq]
        refine ⟨⟨by dsimp only; omega, by dsimp only; omega⟩, g2, rfl, fun r hr => ?_⟩
        rcases List.mem_cons.mp hr with rfl | hr
        · exact ⟨by dsimp only; omega, z2⟩
        · rw [List.mem_singleton.mp hr]
          exact ⟨by dsimp only; omega, y2⟩
  · rintro ρ M2 ⟨qs, u, v, w, z, rfl, h1, h2, h3, h4⟩
    walk_at "s"
    refine tup_l h4 (dr (h3 _ _ hd) (by decide) (by decide) (fun x hx => ?_))
    obtain ⟨q, e, hq⟩ := mem_get (xs := qs) (i := x) (by omega)
    refine ix_l (y := q.p) h4 (by omega) (by rw [Int.toNat_natCast, List.getElem?_map, e]; rfl) ⟨M', h3, ?_⟩
    refine kQ ⟨[[0, 1], [1, 0]], .tup [.tup [.str "put", .int 1], .tup [.str "turn", .int 0, .int 1]], [1], [qs, [q]]⟩ ⟨⟨2, by decide, show RdOk 2 2 [[0, 1], [1, 0]] by unfold RdOk; decide, show 0 < 2 ∧ 2 < 10 by decide, show 0 < 1 ∧ 1 < 10 by decide, fun n hn => ?_, show 0 < 2 ∧ 2 ≤ 60 by decide, fun m hm => ?_⟩, qs, [[q]], rfl, by omega⟩
    · rw [List.mem_singleton.mp hn]
      exact ⟨by decide, Nat.lt_of_lt_of_le (m := 2 ^ 1) (by decide) (Nat.pow_le_pow_right (by decide) (by decide))⟩
    · rcases List.mem_cons.mp hm with rfl | hm
      · exact ⟨by omega, fun q hq => h2 q hq⟩
      · rw [List.mem_singleton.mp hm]
        exact ⟨by simp, fun q2 hq2 => by rw [List.mem_singleton.mp hq2]; exact h2 q hq⟩
abbrev s__law_long : Stmt := top 139
theorem sc__law_long : FnScope ["d", "modes", "mode", "many", "goes", "a"] ["d"] (defScope s__law_long) := ⟨rfl, rfl, rfl, by decide +kernel, rfl, by decide +kernel, by decide +kernel⟩
theorem c__law_long (F : Std K mg "_law_long" s__law_long) (B : BFree mg) (c__law_draw : C8.Cal P w K mg base 1 "_law_draw" (toSp K sp_draw) []) (c__law_row : C8.Cal P w K mg base 2 "_law_row" (toSp K sp_row) []) : C8.Cal P w K mg base 3 "_law_long" (toSp K sp_anyhouse) [] := by
  refine F.cal sc__law_long sp_anyhouse_len (fun _ _ _ _ _ _ us hl => match us, hl with | [_], _ => rfl) (fun f cdv A outer s H E hr => ?_)
  have nd := sc__law_long.nd
  refine ⟨_, _, (qss_cons (qs_set (i := 1) nd rfl (by first | exact .inl rfl | exact .inr rfl) (qe_lst qa_nil))
      (qss_cut (qs_for PassesOwn.never rfl (qi_rng1 rfl B.f_range (qa_cons qe_int qa_nil)) (qg_name (i := 2) nd rfl (by first | exact .inl rfl | exact .inr rfl)) (qss_cut (qs_set (i := 3) nd rfl (by first | exact .inl rfl | exact .inr rfl) (qe_ifExp (qt_lt (qe_var (i := 2) rfl (by first | exact .inl rfl | exact .inr (.inl rfl) | exact .inr (.inr rfl))) qe_int) qe_int (qe_plusK K qe_int (qe_callK K c__law_draw hr (by decide) rfl (qa_cons (qe_var (i := 0) rfl (by first | exact .inl rfl | exact .inr (.inl rfl) | exact .inr (.inr rfl))) (qa_cons qe_int qa_nil))))))
      (qss_cons (qs_set (i := 4) nd rfl (by first | exact .inl rfl | exact .inr rfl) (qe_callTyK K ac_tuple call_tuple_of rfl B.f_tuple (by decide +kernel) (qa_cons (qe_lc (i := 5) rfl nd (qi_rng1 rfl B.f_range (qa_cons (qe_var (i := 3) rfl (by first | exact .inl rfl | exact .inr (.inl rfl) | exact .inr (.inr rfl))) qa_nil)) (blkOk_by (by kernel_rfl)) (fun _ _ _ _ _ => pg_name (i := 5) nd rfl (Or.inl rfl)) (fun _ _ _ _ _ => qts_nil) (fun _ _ _ _ _ => (qe_tup (qa_cons (qe_callK K c__law_draw hr (by decide) rfl (qa_cons (qe_var (i := 0) rfl (by first | exact .inl rfl | exact .inr (.inl rfl) | exact .inr (.inr rfl))) (qa_cons qe_int qa_nil))) (qa_cons (qe_callK K c__law_draw hr (by decide) rfl (qa_cons (qe_var (i := 0) rfl (by first | exact .inl rfl | exact .inr (.inl rfl) | exact .inr (.inr rfl))) (qa_cons qe_int qa_nil))) qa_nil))))) qa_nil)))
      (qss_one (qs_expr (qe_bmLK K PySem.F.plainAttrs_list PySem.F.slot_list_append PySem.F.type_list_append am_append mt_append (qe_var (i := 1) rfl (by first | exact .inl rfl | exact .inr (.inl rfl) | exact .inr (.inr rfl))) (qa_cons (qe_tup (qa_cons (qe_tup (qa_cons qe_str (qa_cons (qe_tup (qa_cons (qe_callK K c__law_row hr (by decide) rfl (qa_cons (qe_var (i := 0) rfl (by first | exact .inl rfl | exact .inr (.inl rfl) | exact .inr (.inr rfl))) (qa_cons (qe_var (i := 3) rfl (by first | exact .inl rfl | exact .inr (.inl rfl) | exact .inr (.inr rfl))) (qa_cons qe_int (qa_cons qe_bl qa_nil))))) qa_nil)) (qa_cons (qe_var (i := 4) rfl (by first | exact .inl rfl | exact .inr (.inl rfl) | exact .inr (.inr rfl))) qa_nil)))) qa_nil)) qa_nil)))))))
      (qss_one (qs_ret (qe_tup (qa_cons qe_str (qa_cons (qe_tup (qa_cons qe_str (qa_cons (qe_tup (qa_cons (qe_tup (qa_cons qe_int qa_nil)) qa_nil)) qa_nil))) (qa_cons (qe_tup qa_nil) (qa_cons (qe_tup (qa_cons (qe_pow qe_int qe_int) (qa_cons qe_int (qa_cons (qe_pow qe_int qe_int) (qa_cons qe_int (qa_cons (qe_pow qe_int qe_int) qa_nil)))))) (qa_cons (qe_callTyK K ac_tuple call_tuple_of rfl B.f_tuple (by decide +kernel) (qa_cons (qe_var (i := 1) rfl (by first | exact .inl rfl | exact .inr (.inl rfl) | exact .inr (.inr rfl))) qa_nil)) qa_nil)))))))))), fun vs M Q h => ?_⟩
  obtain ⟨d, rfl, hd, kQ⟩ := h
  walk_at "s"
  intro a M1 na l1 m1
  refine ⟨fun ρ M2 => ∃ (ms : List (List Qn)) (u v w z : Option CR.P), ρ = [some (.ref d), some (.ref a), u, v, w, z] ∧ ms.length = 60 ∧ (∀ m ∈ ms, m.length = 1 ∧ ∀ q ∈ m, q.Ok 1 5 60) ∧ Le M M2 ∧ M2 a = some (.lst (ms.map Mt)), ⟨by decide, ?_⟩, ?_⟩
  · refine for_rng (fun k ρ M2 => ∃ (ms : List (List Qn)) (u v w z : Option CR.P), ρ = [some (.ref d), some (.ref a), u, v, w, z] ∧ ms.length = k ∧ (∀ m ∈ ms, m.length = 1 ∧ ∀ q ∈ m, q.Ok 1 5 60) ∧ Le M M2 ∧ M2 a = some (.lst (ms.map Mt))) ⟨[], _, _, _, _, rfl, rfl, fun _ h => (by cases h), l1, m1⟩ (fun k ρ M2 hk ⟨ms, u, v, w, z, eρ, h1, h2, h3, h4⟩ => ?_) (fun ρ M2 h => h)
    subst eρ
    walk_at "s"
    refine ⟨fun ρ M3 => M3 = M2 ∧ ∃ many : Int, (0 < many ∧ many ≤ 12) ∧ ρ = [some (.ref d), some (.ref a), some (.int (0 + (k : Int))), some (.int many), w, z], ⟨fun _ => ⟨rfl, 12, by decide, rfl⟩, fun _ => dr (h3 _ _ hd) (by decide) (by decide) (fun x hx => cat_i ⟨rfl, _, ⟨by omega, by omega⟩, rfl⟩)⟩, ?_⟩
    rintro ρ M3 ⟨rfl, many, hm, rfl⟩
    walk_at "s"
    refine ⟨⟨by omega, by omega⟩, lc_rng (fun y => ∃ gg : Nat × Nat, y = .tup [I gg.1, I gg.2] ∧ GoOk 60 gg) (szl _ (by omega)) (fun j acc M6 hj l6 g6 => ?_) (fun acc c M6 g6 nc l6 m7 => ?_)⟩
    · walk_at "s"
      have hd6 := l6 _ _ (h3 _ _ hd)
      exact dr hd6 (by decide) (by decide) (fun x hx => dr hd6 (by decide) (by decide) (fun y hy => ⟨Le.refl, fun _ _ _ => g6.snoc ⟨(x, y), rfl, by show x < 60; omega, by show y ≤ 1; omega⟩⟩))
    · obtain ⟨gs, rfl, g2⟩ := all_of g6.2
      have g1 := g6.1
      rw [List.length_map] at g1
      refine tup_l m7 ?_
      rw [l6 _ _ h4]
      refine ⟨d, many, 6, false, rfl, l6 _ _ (h3 _ _ hd), ⟨by omega, by omega⟩, by decide, fun n1 x1 x2 => ?_⟩
      refine app_ (l6 _ _ h4) (sz _ (by rw [List.length_map]; omega)) (fun M7 lx m8 => ⟨ms ++ [[⟨false, [n1], gs⟩]], _, _, _, _, rfl, by rw [List.length_append, h1]; rfl, app_ok h2 fun m hm => ?_, (h3.trans l6).x na lx, by rw [List.map_append]; exact m8⟩)
      rw [List.mem_singleton.mp hm]
      refine ⟨rfl, fun q hq => ?_⟩
      rw [List.mem_singleton.mp hq]
      refine ⟨⟨by dsimp only; omega, by dsimp only; omega⟩, g2, rfl, fun r hr => ?_⟩
      rw [List.mem_singleton.mp hr]
      exact ⟨by dsimp only; omega, x2⟩
  · rintro ρ M2 ⟨ms, u, v, w, z, rfl, h1, h2, h3, h4⟩
    walk_at "s"
    have cp : CPow 10 40 := ⟨by decide, by decide, by decide⟩
    refine ⟨cp, cp, cp, ?_⟩
    refine tup_l h4 ⟨M, h3, ?_⟩
    cases ms with
    | nil => simp at h1
    | cons m0 mr =>
    refine kQ ⟨[[0]], .tup [], [10 ^ 40, 1, 10 ^ 40, 2, 10 ^ 40], m0 :: mr⟩ ⟨⟨1, by decide, show RdOk 1 1 [[0]] by unfold RdOk; decide, show 0 < 1 ∧ 1 < 10 by decide, show 0 < 5 ∧ 5 < 10 by decide, fun n hn => ?_, show 0 < (m0 :: mr).length ∧ (m0 :: mr).length ≤ 60 by omega, fun m hm => ?_⟩, m0, mr, rfl, by rw [(h2 m0 (List.mem_cons_self ..)).1]; decide⟩
    · have : n ≤ 10 ^ 40 ∧ 0 < n := by
        simp only [List.mem_cons, List.not_mem_nil, or_false] at hn
        rcases hn with rfl | rfl | rfl | rfl | rfl <;> decide
      exact ⟨this.2, Nat.lt_of_le_of_lt this.1 (by decide)⟩
    · have := h2 m hm
      refine ⟨by omega, fun q hq => ?_⟩
      have := this.2 q hq
      rw [← h1] at this
      exact this
abbrev s__law_some_house : Stmt := top 140
theorem sc__law_some_house : FnScope ["d", "style"] ["d"] (defScope s__law_some_house) := ⟨rfl, rfl, rfl, by decide +kernel, rfl, by decide +kernel, by decide +kernel⟩
theorem c__law_some_house (F : Std K mg "_law_some_house" s__law_some_house) (B : BFree mg) (c__law_broad : C8.Cal P w K mg base 3 "_law_broad" (toSp K sp_anyhouse) []) (c__law_busy : C8.Cal P w K mg base 5 "_law_busy" (toSp K sp_busy) []) (c__law_draw : C8.Cal P w K mg base 1 "_law_draw" (toSp K sp_draw) []) (c__law_house : C8.Cal P w K mg base 5 "_law_house" (toSp K sp_house) []) (c__law_long : C8.Cal P w K mg base 3 "_law_long" (toSp K sp_anyhouse) []) (c__law_near : C8.Cal P w K mg base 2 "_law_near" (toSp K sp_near) []) (c__law_reader : C8.Cal P w K mg base 2 "_law_reader" (toSp K sp_reader) []) (c__law_small_house : C8.Cal P w K mg base 6 "_law_small_house" (toSp K sp_shouse) []) : C8.Cal P w K mg base 7 "_law_some_house" (toSp K sp_anyhouse) [] := by
  refine F.cal sc__law_some_house sp_anyhouse_len (fun _ _ _ _ _ _ us hl => match us, hl with | [_], _ => rfl) (fun f cdv A outer s H E hr => ?_)
  have nd := sc__law_some_house.nd
  refine ⟨_, _, (qss_cons (qs_set (i := 1) nd rfl (by first | exact .inl rfl | exact .inr rfl) (qe_callK K c__law_draw hr (by decide) rfl (qa_cons (qe_var (i := 0) rfl (by first | exact .inl rfl | exact .inr (.inl rfl) | exact .inr (.inr rfl))) (qa_cons qe_int qa_nil))))
      (qss_cons (qs_if (qt_eqK K hr.units (qe_var (i := 1) rfl (by first | exact .inl rfl | exact .inr (.inl rfl) | exact .inr (.inr rfl))) qe_int (nomark _)) (qss_one (qs_ret (qe_callK K c__law_broad hr (by decide) rfl (qa_cons (qe_var (i := 0) rfl (by first | exact .inl rfl | exact .inr (.inl rfl) | exact .inr (.inr rfl))) qa_nil)))) qss_nil)
      (qss_cons (qs_if (qt_eqK K hr.units (qe_var (i := 1) rfl (by first | exact .inl rfl | exact .inr (.inl rfl) | exact .inr (.inr rfl))) qe_int (nomark _)) (qss_one (qs_ret (qe_callK K c__law_long hr (by decide) rfl (qa_cons (qe_var (i := 0) rfl (by first | exact .inl rfl | exact .inr (.inl rfl) | exact .inr (.inr rfl))) qa_nil)))) qss_nil)
      (qss_cons (qs_if (qt_eqK K hr.units (qe_var (i := 1) rfl (by first | exact .inl rfl | exact .inr (.inl rfl) | exact .inr (.inr rfl))) qe_int (nomark _)) (qss_one (qs_ret (qe_callK K c__law_busy hr (by decide) rfl (qa_cons (qe_var (i := 0) rfl (by first | exact .inl rfl | exact .inr (.inl rfl) | exact .inr (.inr rfl))) (qa_cons (qe_callK K c__law_house hr (by decide) rfl (qa_cons (qe_var (i := 0) rfl (by first | exact .inl rfl | exact .inr (.inl rfl) | exact .inr (.inr rfl))) (qa_cons (qe_callK K c__law_reader hr (by decide) rfl (qa_cons (qe_var (i := 0) rfl (by first | exact .inl rfl | exact .inr (.inl rfl) | exact .inr (.inr rfl))) (qa_cons qe_int (qa_cons qe_int qa_nil)))) (qa_cons (qe_callK K c__law_near hr (by decide) rfl (qa_cons (qe_var (i := 0) rfl (by first | exact .inl rfl | exact .inr (.inl rfl) | exact .inr (.inr rfl))) (qa_cons qe_int qa_nil))) (qa_cons qe_int (qa_cons qe_int (qa_cons (qe_plusK K qe_int (qe_callK K c__law_draw hr (by decide) rfl (qa_cons (qe_var (i := 0) rfl (by first | exact .inl rfl | exact .inr (.inl rfl) | exact .inr (.inr rfl))) (qa_cons qe_int qa_nil)))) qa_nil))))))) qa_nil))))) qss_nil)
      (qss_one (qs_ret (qe_callK K c__law_busy hr (by decide) rfl (qa_cons (qe_var (i := 0) rfl (by first | exact .inl rfl | exact .inr (.inl rfl) | exact .inr (.inr rfl))) (qa_cons (qe_callK K c__law_small_house hr (by decide) rfl (qa_cons (qe_var (i := 0) rfl (by first | exact .inl rfl | exact .inr (.inl rfl) | exact .inr (.inr rfl))) qa_nil)) qa_nil))))))))), fun vs M Q h => ?_⟩
  obtain ⟨d, rfl, hd, kQ⟩ := h
  walk_at "s"
  refine dr hd (by decide) (by decide) (fun x hx => ⟨fun _ => ?_, fun _ => ⟨fun _ => ?_, fun _ => ⟨fun _ => ?_, fun _ => ?_⟩⟩⟩)
  · exact ⟨d, rfl, hd, fun h hh => ⟨M, Le.refl, kQ h hh⟩⟩
  · exact ⟨d, rfl, hd, fun h hh => ⟨M, Le.refl, kQ h hh⟩⟩
  · refine ⟨d, 2, 2, rfl, hd, by decide, by decide, fun rs hrs => ?_⟩
    refine ⟨d, 2, rfl, hd, by decide, fun near _ _ => ?_⟩
    refine dr hd (by decide) (by decide) (fun y hy => cat_i ?_)
    refine ⟨d, rs, 2, .tup near, 2, 5, 1 + (y : Int), rfl, hd, by decide, ⟨by rw [hrs.1]; decide, by rw [hrs.1]; decide⟩, by rw [hrs.1]; exact hrs, by decide, by decide, fun h hh => ?_⟩
    exact ⟨d, h, 2, rfl, hd, hh, fun h hh => ⟨M, Le.refl, kQ h hh⟩⟩
  · exact ⟨d, rfl, hd, fun h k hh => ⟨d, h, k, rfl, hd, hh, fun h hh => ⟨M, Le.refl, kQ h hh⟩⟩⟩
end
end CR

set_option Elab.async false
set_option linter.all false
set_option maxRecDepth 100000
set_option maxHeartbeats 4000000
set_option exponentiation.threshold 300000
namespace CR
open PySem PySem.Spec L2
local macro_rules | `(tactic| walk_at "s") => `(tactic| dsimp only [fRet, fSeq, fCut, fAsg, fDrop, fIfS, fNext, fBreak, fCont, fVar, fC, fOp, fCall, fCons, fNil, fCB, fBMS, fBML, fTup, fLst, fTest, fNot, fAnd, fOr, fAndV, fOrV, fNotV, fIf, fNeg, fChain, fGName, fGTup, fGCons, fGNil, fAugI, fSl, fPart, fNoPart, fRevL, fLstRg, fRepl, fFld, fSFld, fMeth, fProp, fPropSet, fMake, fMakeV, fCMeth, fGSub, fAugSub, fISeq, fIStr, fIRng1, fIRng2, fFor, fWhile, fLc, fYes, fIsi, fOf, fSeqX, fIfX, fRaise, fSetMX, fTry, fFldX, fIsX, fCMK, fMD, nth, lawS, startP, setS, clrS, wipeS, fnEnds, pI0, pI])
local macro_rules | `(tactic| walk_at "d") => `(tactic| try dsimp only)
section
variable {P : Program} {w : World} {K : PySem.W.Frag} {mg : Str → Option Value} {base : Heap}
open SX
def sumTo (l : List Nat) : Nat → Nat
  | 0 => 0
  | k + 1 => sumTo l k + (k + 1) * l.getD k 0
def sealN (l : List Nat) : Nat := sumTo l l.length % 9973
abbrev T (l : List Nat) : CR.P := .str (S l)
def sp_seal : PSp := fun ps M Q => ∃ l, ps = [T l] ∧ l.length < 2 ^ 20 ∧ Q (I (sealN l)) M
theorem sp_seal_len : ∀ vs M Q, sp_seal vs M Q → vs.length = 1 := fun vs M Q ⟨a, e', _⟩ => by rw [e']; rfl
theorem szS {l : List Nat} (h : l.length < 2 ^ 20) : (S l).length ≤ sizeLine := by
  rw [S_len]
  exact Nat.le_of_lt (Nat.lt_of_lt_of_le h (by decide))
theorem len_T {l : List Nat} {M : Mp} {Q : KE} (h : l.length < 2 ^ 20) (q : Q (.int l.length) M) : pLen [T l] M Q := len_s (szS h) (by rw [S_len]; exact q)
abbrev s_check_number : Stmt := top 30
theorem sc_check_number : FnScope ["line", "found", "place"] ["line"] (defScope s_check_number) := ⟨rfl, rfl, rfl, by decide +kernel, rfl, by decide +kernel, by decide +kernel⟩
theorem c_check_number (F : Std K mg "check_number" s_check_number) (B : BFree mg) (h_BASE : GCI mg "BASE" 9973) : C8.Cal P w K mg base 1 "check_number" (toSp K sp_seal) [] := by
  refine F.cal sc_check_number sp_seal_len (fun _ _ _ _ _ _ us hl => match us, hl with | [_], _ => rfl) (fun f cdv A outer s H E hr => ?_)
  have nd := sc_check_number.nd
  refine ⟨_, _, (qss_cons (qs_set (i := 1) nd rfl (by first | exact .inl rfl | exact .inr rfl) qe_int)
      (qss_cut (qs_for PassesOwn.never rfl (qi_rng1 rfl B.f_range (qa_cons (qe_callBK K ac_len call_len rfl B.f_len PySem.boot_len (qa_cons (qe_var (i := 0) rfl (by first | exact .inl rfl | exact .inr (.inl rfl) | exact .inr (.inr rfl))) qa_nil)) qa_nil)) (qg_name (i := 2) nd rfl (by first | exact .inl rfl | exact .inr rfl)) (qss_one (qs_set (i := 1) nd rfl (by first | exact .inl rfl | exact .inr rfl) (qe_plusK K (qe_var (i := 1) rfl (by first | exact .inl rfl | exact .inr (.inl rfl) | exact .inr (.inr rfl))) (qe_mul (qe_plusK K (qe_var (i := 2) rfl (by first | exact .inl rfl | exact .inr (.inl rfl) | exact .inr (.inr rfl))) qe_int) (qe_callBK K ac_ord call_ord rfl B.f_ord (by decide +kernel) (qa_cons (qe_ixK K (qe_var (i := 0) rfl (by first | exact .inl rfl | exact .inr (.inl rfl) | exact .inr (.inr rfl))) (qe_var (i := 2) rfl (by first | exact .inl rfl | exact .inr (.inl rfl) | exact .inr (.inr rfl)))) qa_nil)))))))
      (qss_one (qs_ret (qe_mod (qe_callTyK K ac_int cr_int rfl B.f_int (by decide +kernel) (qa_cons (qe_var (i := 1) rfl (by first | exact .inl rfl | exact .inr (.inl rfl) | exact .inr (.inr rfl))) qa_nil)) (h_BASE.qe rfl)))))), fun vs M Q h => ?_⟩
  obtain ⟨l, rfl, hl, kQ⟩ := h
  walk_at "s"
  refine ⟨fun ρ M' => M' = M ∧ ∃ u, ρ = [some (T l), some (I (sumTo l l.length)), u], len_T hl ⟨⟨by omega, by omega⟩, for_rng (fun k ρ M' => M' = M ∧ ∃ u, ρ = [some (T l), some (I (sumTo l k)), u]) ⟨rfl, _, rfl⟩ (fun k ρ M' hk ⟨e, u, eρ⟩ => ?_) (fun ρ M' h => h)⟩, ?_⟩
  · subst e eρ
    obtain ⟨c, hc, _⟩ := mem_get (xs := l) (i := k) (by omega)
    walk_at "s"
    rw [show (0 : Int) + k = (k : Int) by omega]
    refine cat_i (ix_s hl hc (ord_s ⟨cmx_l (by omega) (by omega), cat_i ⟨rfl, some (.int (k : Int)), ?_⟩⟩))
    rw [show sumTo l (k + 1) = sumTo l k + (k + 1) * c by show _ + _ * l.getD k 0 = _; rw [List.getD_eq_getElem?_getD, hc]; rfl]
    rfl
  · rintro ρ M' ⟨rfl, u, rfl⟩
    walk_at "s"
    exact ⟨by decide, M', Le.refl, kQ⟩
/-- a line of a journal -/
def lineL (w : List Nat) : List Nat := w ++ [32, 35] ++ TL.numL (sealN w) ++ [10]
theorem seal_lt (l : List Nat) : sealN l < 2 ^ 14000 := Nat.lt_of_lt_of_le (m := 2 ^ 14) (Nat.lt_trans (Nat.mod_lt _ (by decide)) (by decide)) (Nat.pow_le_pow_right (by decide) (by decide))
theorem seal_len (l : List Nat) : (TL.numL (sealN l)).length ≤ 4 := TL.numL_len (by decide) (Nat.lt_trans (Nat.mod_lt _ (by decide)) (by decide))
def sp_line : PSp := fun ps M Q => ∃ l, ps = [T l] ∧ l.length + 10 < 2 ^ 20 ∧ Q (T (lineL l)) M
theorem sp_line_len : ∀ vs M Q, sp_line vs M Q → vs.length = 1 := fun vs M Q ⟨a, e', _⟩ => by rw [e']; rfl
theorem cat_T {a b : List Nat} {M : Mp} {Q : KE} (h : a.length + b.length ≤ 2 ^ 20) (q : Q (T (a ++ b)) M) : pCat (T a) (T b) M Q := cat_s (by rw [S_len, S_len]; exact Nat.le_trans h (by decide)) (by rw [S_cat]; exact q)
theorem cat_TL {a : List Nat} {x : Str} {b : List Nat} {M : Mp} {Q : KE} (e : x = S b) (h : a.length + b.length ≤ 2 ^ 20) (q : Q (T (a ++ b)) M) : pCat (T a) (.str x) M Q := by
  subst e
  exact cat_T h q
theorem cat_TR {a : List Nat} {x : Str} {b : List Nat} {M : Mp} {Q : KE} (e : x = S b) (h : b.length + a.length ≤ 2 ^ 20) (q : Q (T (b ++ a)) M) : pCat (.str x) (T a) M Q := by
  subst e
  exact cat_T h q
abbrev s__law_line : Stmt := top 146
theorem sc__law_line : FnScope ["words", "found", "k"] ["words"] (defScope s__law_line) := ⟨rfl, rfl, rfl, by decide +kernel, rfl, by decide +kernel, by decide +kernel⟩
theorem c__law_line (F : Std K mg "_law_line" s__law_line) (B : BFree mg) (hnd : base.NoDigits) : C8.Cal P w K mg base 1 "_law_line" (toSp K sp_line) [] := by
  refine F.cal sc__law_line sp_line_len (fun _ _ _ _ _ _ us hl => match us, hl with | [_], _ => rfl) (fun f cdv A outer s H E hr => ?_)
  have nd := sc__law_line.nd
  refine ⟨_, _, (qss_cons (qs_set (i := 1) nd rfl (by first | exact .inl rfl | exact .inr rfl) qe_int)
      (qss_cut (qs_for PassesOwn.never rfl (qi_rng1 rfl B.f_range (qa_cons (qe_callBK K ac_len call_len rfl B.f_len PySem.boot_len (qa_cons (qe_var (i := 0) rfl (by first | exact .inl rfl | exact .inr (.inl rfl) | exact .inr (.inr rfl))) qa_nil)) qa_nil)) (qg_name (i := 2) nd rfl (by first | exact .inl rfl | exact .inr rfl)) (qss_one (qs_augAdd (i := 1) nd rfl (by first | exact .inl rfl | exact .inr rfl) (qe_mul (qe_plusK K (qe_var (i := 2) rfl (by first | exact .inl rfl | exact .inr (.inl rfl) | exact .inr (.inr rfl))) qe_int) (qe_callBK K ac_ord call_ord rfl B.f_ord (by decide +kernel) (qa_cons (qe_ixK K (qe_var (i := 0) rfl (by first | exact .inl rfl | exact .inr (.inl rfl) | exact .inr (.inr rfl))) (qe_var (i := 2) rfl (by first | exact .inl rfl | exact .inr (.inl rfl) | exact .inr (.inr rfl)))) qa_nil))))))
      (qss_one (qs_ret (qe_plusK K (qe_plusK K (qe_plusK K (qe_var (i := 0) rfl (by first | exact .inl rfl | exact .inr (.inl rfl) | exact .inr (.inr rfl))) qe_str) (qe_callTyK K ac_strB (cr_strB hnd hr.hd) rfl B.f_str (by decide +kernel) (qa_cons (qe_mod (qe_callTyK K ac_int cr_int rfl B.f_int (by decide +kernel) (qa_cons (qe_var (i := 1) rfl (by first | exact .inl rfl | exact .inr (.inl rfl) | exact .inr (.inr rfl))) qa_nil)) qe_int) qa_nil))) qe_str))))), fun vs M Q h => ?_⟩
  obtain ⟨l, rfl, hl, kQ⟩ := h
  have hs := seal_len l
  walk_at "s"
  refine ⟨fun ρ M' => M' = M ∧ ∃ u, ρ = [some (T l), some (I (sumTo l l.length)), u], len_T (by omega) ⟨⟨by omega, by omega⟩, for_rng (fun k ρ M' => M' = M ∧ ∃ u, ρ = [some (T l), some (I (sumTo l k)), u]) ⟨rfl, _, rfl⟩ (fun k ρ M' hk ⟨e, u, eρ⟩ => ?_) (fun ρ M' h => h)⟩, ?_⟩
  · subst e eρ
    obtain ⟨c, hc, _⟩ := mem_get (xs := l) (i := k) (by omega)
    walk_at "s"
    rw [show (0 : Int) + k = (k : Int) by omega]
    refine cat_i (ix_s (by omega) hc (ord_s ⟨cmx_l (by omega) (by omega), rfl, some (.int (k : Int)), ?_⟩))
    rw [show sumTo l (k + 1) = sumTo l k + (k + 1) * c by show _ + _ * l.getD k 0 = _; rw [List.getD_eq_getElem?_getD, hc]; rfl]
    rfl
  · rintro ρ M' ⟨rfl, u, rfl⟩
    walk_at "s"
    refine cat_TL (b := [32, 35]) rfl (by show _ + 2 ≤ _; omega) ⟨by decide, strB (n := sealN l) (seal_lt l) (cat_T ?_ (cat_TL (b := [10]) rfl ?_ ⟨M', Le.refl, kQ⟩))⟩
    · rw [List.length_append]
      show _ + 2 + _ ≤ _
      omega
    · rw [List.length_append, List.length_append]
      show _ + 2 + _ + 1 ≤ _
      omega
end
end CR

set_option Elab.async false
set_option linter.all false
set_option maxRecDepth 100000
set_option maxHeartbeats 4000000
set_option exponentiation.threshold 300000
namespace CR
open PySem PySem.Spec L2
local macro_rules | `(tactic| walk_at "s") => `(tactic| dsimp only [fRet, fSeq, fCut, fAsg, fDrop, fIfS, fNext, fBreak, fCont, fVar, fC, fOp, fCall, fCons, fNil, fCB, fBMS, fBML, fTup, fLst, fTest, fNot, fAnd, fOr, fAndV, fOrV, fNotV, fIf, fNeg, fChain, fGName, fGTup, fGCons, fGNil, fAugI, fSl, fPart, fNoPart, fRevL, fLstRg, fRepl, fFld, fSFld, fMeth, fProp, fPropSet, fMake, fMakeV, fCMeth, fGSub, fAugSub, fISeq, fIStr, fIRng1, fIRng2, fFor, fWhile, fLc, fYes, fIsi, fOf, fSeqX, fIfX, fRaise, fSetMX, fTry, fFldX, fIsX, fCMK, fMD, nth, lawS, startP, setS, clrS, wipeS, fnEnds, pI0, pI])
local macro_rules | `(tactic| walk_at "d") => `(tactic| try dsimp only)
section
variable {P : Program} {w : World} {K : PySem.W.Frag} {mg : Str → Option Value} {base : Heap}
open SX
/-! ### decimals -/
def padL : Nat → Nat → List Nat
  | 0, _ => []
  | k + 1, r => padL k (r / 10) ++ [48 + r % 10]
theorem num_pad : ∀ (k n : Nat), 10 ^ k ≤ n → TL.numL n = TL.numL (n / 10 ^ k) ++ padL k (n % 10 ^ k)
  | 0, n, _ => by simp [padL]
  | k + 1, n, h => by
    have h10 : 10 ≤ n := Nat.le_trans (by rw [Nat.pow_succ]; have := Nat.one_le_two_pow (n := 0); have : 0 < 10 ^ k := Nat.pow_pos (by decide); omega) h
    have h1 : 10 ^ k ≤ n / 10 := by
      rw [Nat.pow_succ] at h
      exact (Nat.le_div_iff_mul_le (by decide)).mpr h
    rw [TL.numL_step h10, num_pad k (n / 10) h1]
    have e1 : n / 10 / 10 ^ k = n / 10 ^ (k + 1) := by rw [Nat.div_div_eq_div_mul, Nat.pow_succ, Nat.mul_comm]
    have e2 : n / 10 % 10 ^ k = n % 10 ^ (k + 1) / 10 := by
      rw [Nat.pow_succ, Nat.mul_comm, Nat.mod_mul_right_div_self]
    have e3 : n % 10 = n % 10 ^ (k + 1) % 10 := by
      rw [Nat.pow_succ, Nat.mul_comm, Nat.mod_mul_right_mod]
    rw [e1, e2, List.append_assoc, e3]
    rfl
theorem padL_len : ∀ k r, (padL k r).length = k
  | 0, _ => rfl
  | k + 1, r => by
    show (padL k (r / 10) ++ [48 + r % 10]).length = _
    rw [List.length_append, padL_len k]
    rfl
theorem padL_zero : ∀ k, padL k 0 = List.replicate k 48
  | 0 => rfl
  | k + 1 => by
    show padL k (0 / 10) ++ [48 + 0 % 10] = _
    rw [show 0 / 10 = 0 from rfl, padL_zero k, List.replicate_succ']
theorem padL_eq : ∀ (k r : Nat), r < 10 ^ (k + 1) → padL (k + 1) r = List.replicate (k + 1 - (TL.numL r).length) 48 ++ TL.numL r
  | 0, r, h => by
    have h' : r < 10 := by simpa using h
    rw [TL.numL_lt h']
    show [] ++ [48 + r % 10] = _
    rw [Nat.mod_eq_of_lt h']
    rfl
  | k + 1, r, h => by
    show padL (k + 1) (r / 10) ++ [48 + r % 10] = _
    by_cases h10 : r < 10
    · rw [Nat.div_eq_of_lt h10, padL_zero, TL.numL_lt h10, Nat.mod_eq_of_lt h10]
      rfl
    · have h1 : r / 10 < 10 ^ (k + 1) := Nat.div_lt_of_lt_mul (by rw [Nat.mul_comm, ← Nat.pow_succ]; exact h)
      rw [padL_eq k (r / 10) h1, TL.numL_step (n := r) (by omega), List.append_assoc]
      congr 2
      rw [List.length_append]
      show _ = k + 1 + 1 - (_ + 1)
      omega
theorem zfill_num {m : Nat} (k : Nat) (h : m < 10 ^ (k + 1)) : Txt.zfill (S (TL.numL m)) ((k + 1 : Nat) : Int) = S (padL (k + 1) m) := by
  have hl := TL.numL_len (n := m) (k := k + 1) (by omega) h
  unfold Txt.zfill
  rw [S_len]
  have e0 : padL (k + 1) m = List.replicate (k + 1 - (TL.numL m).length) 48 ++ TL.numL m := padL_eq k m h
  split
  · have : (TL.numL m).length = k + 1 := by omega
    rw [e0, this]
    simp
  · rw [e0]
    unfold zfilled
    have hd := TL.numL_digits m
    cases hc : TL.numL m with
    | nil => exact absurd hc (TL.numL_ne m)
    | cons c r =>
      have c1 := hd c (by rw [hc]; exact List.mem_cons_self ..)
      have : (S (c :: r)).cps[0]? = some c := by simp [S]
      rw [this]
      have n1 : c ≠ 43 := by omega
      have n2 : c ≠ 45 := by omega
      split
      · rename_i e; cases e; omega
      · rename_i e; cases e; omega
      · refine TL.ext_tl ?_
        show (Array.replicate _ 48 ++ (S (c :: r)).cps ++ Array.replicate 0 48).toList = _
        simp [S]
/-- blocks of a number, the lowest first -/
theorem length_flat {α : Type} (bs : List (List α)) : bs.flatten.length = (bs.map (·.length)).sum := by rw [List.length_flatten]
theorem joinL_nil : ∀ bs : List (List Nat), TL.joinL [] bs = bs.flatten
  | [] => rfl
  | [p] => by simp [TL.joinL]
  | p :: q :: r => by
    show p ++ ([] ++ TL.joinL [] (q :: r)) = _
    rw [joinL_nil (q :: r)]
    rfl
theorem join_T {a : Addr} {z : List Nat} {ys : List (List Nat)} {M : Mp} {Q : KE} (m : M a = some (.lst (ys.map T))) (hn : (ys.map (·.length)).sum + ys.length * z.length ≤ 16777216) (q : Q (T (TL.joinL z ys)) M) : pJoin (.str (S z)) [.ref a] M Q := by
  have m' : M a = some (.lst ((ys.map S).map CR.P.str)) := by rw [List.map_map]; exact m
  refine join_l m' ?_ ?_
  · rw [lens, List.length_map, S_len]
    exact hn
  · rw [join_S]
    exact q
def sp_dec : PSp := fun ps M Q => ∃ n : Nat, ps = [.int n] ∧ n < 2 ^ 14000 ∧ Q (T (TL.numL n)) M
theorem sp_dec_len : ∀ vs M Q, sp_dec vs M Q → vs.length = 1 := fun vs M Q ⟨a, e', _⟩ => by rw [e']; rfl
abbrev s_decimal : Stmt := top 31
theorem sc_decimal : FnScope ["number", "blocks", "left"] ["number"] (defScope s_decimal) := ⟨rfl, rfl, rfl, by decide +kernel, rfl, by decide +kernel, by decide +kernel⟩
theorem c_decimal (F : Std K mg "decimal" s_decimal) (B : BFree mg) (hnd : base.NoDigits) (h_BLOCK : GCI mg "BLOCK" (10 ^ 60)) (h_BLOCK_DIGITS : GCI mg "BLOCK_DIGITS" 60) : C8.Cal P w K mg base 1 "decimal" (toSp K sp_dec) [] := by
  refine F.cal sc_decimal sp_dec_len (fun _ _ _ _ _ _ us hl => match us, hl with | [_], _ => rfl) (fun f cdv A outer s H E hr => ?_)
  have nd := sc_decimal.nd
  refine ⟨_, _, (qss_cons (qs_set (i := 1) nd rfl (by first | exact .inl rfl | exact .inr rfl) (qe_lst qa_nil))
      (qss_cons (qs_set (i := 2) nd rfl (by first | exact .inl rfl | exact .inr rfl) (qe_var (i := 0) rfl (by first | exact .inl rfl | exact .inr (.inl rfl) | exact .inr (.inr rfl))))
      (qss_cut (qs_while PassesOwn.never (qt_ge (qe_var (i := 2) rfl (by first | exact .inl rfl | exact .inr (.inl rfl) | exact .inr (.inr rfl))) (h_BLOCK.qe rfl)) (qss_cons (qs_expr (qe_bmLK K PySem.F.plainAttrs_list PySem.F.slot_list_append PySem.F.type_list_append am_append mt_append (qe_var (i := 1) rfl (by first | exact .inl rfl | exact .inr (.inl rfl) | exact .inr (.inr rfl))) (qa_cons (qe_bmSK K PySem.F.plainAttrs_str PySem.F.slot_str_zfill PySem.F.type_str_zfill am_zfill mt_zfill (qe_callTyK K ac_strB (cr_strB hnd hr.hd) rfl B.f_str (by decide +kernel) (qa_cons (qe_mod (qe_callTyK K ac_int cr_int rfl B.f_int (by decide +kernel) (qa_cons (qe_var (i := 2) rfl (by first | exact .inl rfl | exact .inr (.inl rfl) | exact .inr (.inr rfl))) qa_nil)) (h_BLOCK.qe rfl)) qa_nil)) (qa_cons (h_BLOCK_DIGITS.qe rfl) qa_nil)) qa_nil)))
      (qss_one (qs_set (i := 2) nd rfl (by first | exact .inl rfl | exact .inr rfl) (qe_fdiv (qe_var (i := 2) rfl (by first | exact .inl rfl | exact .inr (.inl rfl) | exact .inr (.inr rfl))) (h_BLOCK.qe rfl))))))
      (qss_cons (qs_expr (qe_bmLK K PySem.F.plainAttrs_list PySem.F.slot_list_append PySem.F.type_list_append am_append mt_append (qe_var (i := 1) rfl (by first | exact .inl rfl | exact .inr (.inl rfl) | exact .inr (.inr rfl))) (qa_cons (qe_callTyK K ac_strB (cr_strB hnd hr.hd) rfl B.f_str (by decide +kernel) (qa_cons (qe_var (i := 2) rfl (by first | exact .inl rfl | exact .inr (.inl rfl) | exact .inr (.inr rfl))) qa_nil)) qa_nil)))
      (qss_one (qs_ret (qe_bmSK K PySem.F.plainAttrs_str PySem.F.slot_str_join PySem.F.type_str_join am_join mt_join qe_str (qa_cons (qe_revLK K (qe_var (i := 1) rfl (by first | exact .inl rfl | exact .inr (.inl rfl) | exact .inr (.inr rfl)))) qa_nil)))))))), fun vs M Q h => ?_⟩
  obtain ⟨n, rfl, hn, kQ⟩ := h
  walk_at "s"
  intro a M1 na l1 m1
  have ln : (TL.numL n).length ≤ 4300 := TL.numL_len (by decide) (Nat.lt_of_lt_of_le hn (Nat.le_of_ble_eq_true (by decide +kernel)))
  have e60 : ((10 : Int) ^ 60) = ((10 ^ 60 : Nat) : Int) := by decide
  rw [e60]
  have p60 : 0 < 10 ^ 60 := Nat.pow_pos (by decide)
  have b60 : (10 : Nat) ^ 60 < 2 ^ 14000 := Nat.lt_of_lt_of_le (m := 2 ^ 200) (by decide) (Nat.pow_le_pow_right (by decide) (by decide))
  have p60i : (0 : Int) < ((10 ^ 60 : Nat) : Int) := by omega
  refine ⟨fun ρ M' => ∃ (left : Nat) (bs : List (List Nat)), left ≤ n ∧ TL.numL n = TL.numL left ++ bs.reverse.flatten ∧ bs.length + (TL.numL left).length ≤ 4300 ∧ Le M M' ∧ M' a = some (.lst (bs.map T)) ∧ ρ = [some (.int n), some (.ref a), some (.int left)], ?_, ?_⟩
  · refine ⟨fun left ρ M' => ∃ (bs : List (List Nat)), left ≤ n ∧ TL.numL n = TL.numL left ++ bs.reverse.flatten ∧ bs.length + (TL.numL left).length ≤ 4300 ∧ Le M M' ∧ M' a = some (.lst (bs.map T)) ∧ ρ = [some (.int n), some (.ref a), some (.int left)], ⟨n, [], Nat.le_refl _, by simp, by simpa using ln, l1, m1, rfl⟩, ?_⟩
    rintro left ρ M' ⟨bs, h0, h1, h2, h3, h4, rfl⟩
    walk_at "s"
    refine ⟨fun h5 => ?_, fun h5 => ⟨left, bs, h0, h1, h2, h3, h4, rfl⟩⟩
    have h6 : 10 ^ 60 ≤ left := by
      have := of_decide_eq_true h5
      omega
    rw [h4]
    dsimp only [pInt]
    have hm : left % 10 ^ 60 < 10 ^ 60 := Nat.mod_lt _ p60
    rw [show ((left : Int) % ((10 ^ 60 : Nat) : Int)) = ((left % 10 ^ 60 : Nat) : Int) from (Int.natCast_emod _ _).symm]
    have hnp := num_pad 60 left h6
    have lp := padL_len 60 (left % 10 ^ 60)
    have ll := congrArg List.length hnp
    rw [List.length_append, lp] at ll
    refine ⟨p60i, strB (Nat.lt_trans hm b60) ⟨by decide, ?_⟩⟩
    rw [show Txt.zfill (S (TL.numL (left % 10 ^ 60))) 60 = S (padL 60 (left % 10 ^ 60)) from zfill_num 59 hm]
    refine app_ h4 (sz _ (by rw [List.length_map]; omega)) (fun M2 lx m2 => ⟨⟨p60i, ?_⟩, left / 10 ^ 60, Nat.div_lt_self (by omega) (by decide), bs ++ [padL 60 (left % 10 ^ 60)], Nat.le_trans (Nat.div_le_self _ _) h0, ?_, ?_, h3.x na lx, by rw [List.map_append]; exact m2, ?_⟩)
    · have : (((10 ^ 60 : Nat) : Int).natAbs).log2 = 199 := by decide +kernel
      rw [this]; decide
    · rw [h1, hnp, List.reverse_append, List.append_assoc]
      rfl
    · rw [List.length_append]
      show _ + 1 + _ ≤ _
      omega
    · rw [show ((left : Int) / ((10 ^ 60 : Nat) : Int)) = ((left / 10 ^ 60 : Nat) : Int) from (Int.natCast_ediv _ _).symm]
  · rintro ρ M' ⟨left, bs, h0, h1, h2, h3, h4, rfl⟩
    walk_at "s"
    rw [h4]
    refine strB (Nat.lt_of_le_of_lt h0 hn) (app_ h4 (sz _ (by rw [List.length_map]; omega)) (fun M2 lx m2 => ?_))
    walk_at "d"
    rw [m2]
    intro b M3 nb l3 m3
    have m4 : M3 b = some (.lst ((TL.numL left :: bs.reverse).map T)) := by
      rw [List.reverse_append] at m3
      rw [List.map_cons, List.map_reverse]
      exact m3
    have hf := congrArg List.length h1
    rw [List.length_append, length_flat] at hf
    refine join_T (z := []) m4 ?_ ⟨M, (h3.x na lx).trans l3, ?_⟩
    · rw [List.map_cons, List.sum_cons]
      show _ + _ * 0 ≤ _
      omega
    · rw [joinL_nil, List.flatten_cons, ← h1]
      exact kQ
def sp_words : PSp := fun ps M Q => ∃ (a : Addr) (ws : List (List Nat)), ps = [.ref a] ∧ M a = some (.lst (ws.map T)) ∧ (ws.map (·.length)).sum + ws.length + 10 < 2 ^ 20 ∧ Q (T (lineL (TL.joinL [32] ws))) M
theorem sp_words_len : ∀ vs M Q, sp_words vs M Q → vs.length = 1 := fun vs M Q ⟨a, b, e', _⟩ => by rw [e']; rfl
theorem joinL_len : ∀ (ws : List (List Nat)), (TL.joinL [32] ws).length ≤ (ws.map (·.length)).sum + ws.length
  | [] => by simp [TL.joinL]
  | [p] => by simp [TL.joinL]
  | p :: q :: r => by
    have := joinL_len (q :: r)
    show (p ++ ([32] ++ TL.joinL [32] (q :: r))).length ≤ _
    rw [List.length_append, List.length_append]
    simp only [List.map_cons, List.sum_cons, List.length_cons, List.length_nil] at this ⊢
    omega
abbrev s_sealed : Stmt := top 32
theorem sc_sealed : FnScope ["words", "line"] ["words"] (defScope s_sealed) := ⟨rfl, rfl, rfl, by decide +kernel, rfl, by decide +kernel, by decide +kernel⟩
theorem c_sealed (F : Std K mg "sealed" s_sealed) (B : BFree mg) (c_check_number : C8.Cal P w K mg base 1 "check_number" (toSp K sp_seal) []) (c_decimal : C8.Cal P w K mg base 1 "decimal" (toSp K sp_dec) []) : C8.Cal P w K mg base 2 "sealed" (toSp K sp_words) [] := by
  refine F.cal sc_sealed sp_words_len (fun _ _ _ _ _ _ us hl => match us, hl with | [_], _ => rfl) (fun f cdv A outer s H E hr => ?_)
  have nd := sc_sealed.nd
  refine ⟨_, _, (qss_cons (qs_set (i := 1) nd rfl (by first | exact .inl rfl | exact .inr rfl) (qe_bmSK K PySem.F.plainAttrs_str PySem.F.slot_str_join PySem.F.type_str_join am_join mt_join qe_str (qa_cons (qe_var (i := 0) rfl (by first | exact .inl rfl | exact .inr (.inl rfl) | exact .inr (.inr rfl))) qa_nil)))
      (qss_one (qs_ret (qe_plusK K (qe_plusK K (qe_plusK K (qe_var (i := 1) rfl (by first | exact .inl rfl | exact .inr (.inl rfl) | exact .inr (.inr rfl))) qe_str) (qe_callK K c_decimal hr (by decide) rfl (qa_cons (qe_callK K c_check_number hr (by decide) rfl (qa_cons (qe_var (i := 1) rfl (by first | exact .inl rfl | exact .inr (.inl rfl) | exact .inr (.inr rfl))) qa_nil)) qa_nil))) qe_str)))), fun vs M Q h => ?_⟩
  obtain ⟨a, ws, rfl, ha, hl, kQ⟩ := h
  walk_at "s"
  have jl := joinL_len ws
  have hs := seal_len (TL.joinL [32] ws)
  refine join_T (z := [32]) ha (by show _ + _ * 1 ≤ _; omega) ?_
  refine cat_TL (b := [32, 35]) rfl (by show _ + 2 ≤ _; omega) ⟨_, rfl, by omega, ⟨_, rfl, seal_lt _, cat_T ?_ (cat_TL (b := [10]) rfl ?_ ⟨M, Le.refl, kQ⟩)⟩⟩
  · rw [List.length_append]
    show _ + 2 + _ ≤ _
    omega
  · rw [List.length_append, List.length_append]
    show _ + 2 + _ + 1 ≤ _
    omega
end
end CR

set_option Elab.async false
set_option linter.all false
set_option maxRecDepth 100000
set_option maxHeartbeats 4000000
set_option exponentiation.threshold 300000
namespace CR
open PySem PySem.Spec L2
local macro_rules | `(tactic| walk_at "s") => `(tactic| dsimp only [fRet, fSeq, fCut, fAsg, fDrop, fIfS, fNext, fBreak, fCont, fVar, fC, fOp, fCall, fCons, fNil, fCB, fBMS, fBML, fTup, fLst, fTest, fNot, fAnd, fOr, fAndV, fOrV, fNotV, fIf, fNeg, fChain, fGName, fGTup, fGCons, fGNil, fAugI, fSl, fPart, fNoPart, fRevL, fLstRg, fRepl, fFld, fSFld, fMeth, fProp, fPropSet, fMake, fMakeV, fCMeth, fGSub, fAugSub, fISeq, fIStr, fIRng1, fIRng2, fFor, fWhile, fLc, fYes, fIsi, fOf, fSeqX, fIfX, fRaise, fSetMX, fTry, fFldX, fIsX, fCMK, fMD, nth, lawS, startP, setS, clrS, wipeS, fnEnds, pI0, pI])
local macro_rules | `(tactic| walk_at "d") => `(tactic| try dsimp only)
section
variable {P : Program} {w : World} {K : PySem.W.Frag} {mg : Str → Option Value} {base : Heap}
open SX
theorem nL_le {n : Nat} (h : n < 2 ^ 14000) : (TL.numL n).length ≤ 4300 := TL.numL_len (by decide) (Nat.lt_of_lt_of_le h (Nat.le_of_ble_eq_true (by decide +kernel)))
def lotW (n : Nat) : List Nat := [108, 111, 116] ++ ([32] ++ TL.numL n)
def askW (x n d : Nat) : List Nat := [97, 115, 107] ++ ([32] ++ (TL.numL x ++ ([32] ++ (TL.numL n ++ [47] ++ TL.numL d))))
def sayW (a m l : Nat) : List Nat := [115, 97, 121] ++ ([32] ++ (TL.numL a ++ ([32] ++ (TL.numL m ++ ([32] ++ TL.numL l)))))
def sp_lot : PSp := fun ps M Q => ∃ n : Nat, ps = [.int n] ∧ n < 2 ^ 14000 ∧ Q (T (lineL (lotW n))) M
theorem sp_lot_len : ∀ vs M Q, sp_lot vs M Q → vs.length = 1 := fun vs M Q ⟨a, e', _⟩ => by rw [e']; rfl
abbrev s_lot_line : Stmt := top 33
theorem sc_lot_line : FnScope ["lot"] ["lot"] (defScope s_lot_line) := ⟨rfl, rfl, rfl, by decide +kernel, rfl, by decide +kernel, by decide +kernel⟩
theorem c_lot_line (F : Std K mg "lot_line" s_lot_line) (B : BFree mg) (c_decimal : C8.Cal P w K mg base 1 "decimal" (toSp K sp_dec) []) (c_sealed : C8.Cal P w K mg base 2 "sealed" (toSp K sp_words) []) : C8.Cal P w K mg base 3 "lot_line" (toSp K sp_lot) [] := by
  refine F.cal sc_lot_line sp_lot_len (fun _ _ _ _ _ _ us hl => match us, hl with | [_], _ => rfl) (fun f cdv A outer s H E hr => ?_)
  have nd := sc_lot_line.nd
  refine ⟨_, _, (qss_one (qs_ret (qe_callK K c_sealed hr (by decide) rfl (qa_cons (qe_lst (qa_cons qe_str (qa_cons (qe_callK K c_decimal hr (by decide) rfl (qa_cons (qe_var (i := 0) rfl (by first | exact .inl rfl | exact .inr (.inl rfl) | exact .inr (.inr rfl))) qa_nil)) qa_nil))) qa_nil)))), fun vs M Q h => ?_⟩
  obtain ⟨n, rfl, hn, kQ⟩ := h
  have := nL_le hn
  walk_at "s"
  refine ⟨n, rfl, hn, ?_⟩
  intro a M1 na l1 m1
  refine ⟨a, [[108, 111, 116], TL.numL n], rfl, m1, ?_, M, l1, kQ⟩
  simp only [List.map_cons, List.map_nil, List.sum_cons, List.sum_nil, List.length_cons, List.length_nil]
  omega
def sp_ask : PSp := fun ps M Q => ∃ x n d : Nat, ps = [.int x, fr n d] ∧ x < 2 ^ 14000 ∧ n < 2 ^ 14000 ∧ d < 2 ^ 14000 ∧ Q (T (lineL (askW x n d))) M
theorem sp_ask_len : ∀ vs M Q, sp_ask vs M Q → vs.length = 2 := fun vs M Q ⟨a, b, c, e', _⟩ => by rw [e']; rfl
abbrev s_ask_line : Stmt := top 34
theorem sc_ask_line : FnScope ["x", "spent"] ["x", "spent"] (defScope s_ask_line) := ⟨rfl, rfl, rfl, by decide +kernel, rfl, by decide +kernel, by decide +kernel⟩
theorem c_ask_line (F : Std K mg "ask_line" s_ask_line) (B : BFree mg) (c_decimal : C8.Cal P w K mg base 1 "decimal" (toSp K sp_dec) []) (c_sealed : C8.Cal P w K mg base 2 "sealed" (toSp K sp_words) []) : C8.Cal P w K mg base 3 "ask_line" (toSp K sp_ask) [] := by
  refine F.cal sc_ask_line sp_ask_len (fun _ _ _ _ _ _ us hl => match us, hl with | [_, _], _ => rfl) (fun f cdv A outer s H E hr => ?_)
  have nd := sc_ask_line.nd
  refine ⟨_, _, (qss_one (qs_ret (qe_callK K c_sealed hr (by decide) rfl (qa_cons (qe_lst (qa_cons qe_str (qa_cons (qe_callK K c_decimal hr (by decide) rfl (qa_cons (qe_var (i := 0) rfl (by first | exact .inl rfl | exact .inr (.inl rfl) | exact .inr (.inr rfl))) qa_nil)) (qa_cons (qe_plusK K (qe_plusK K (qe_callK K c_decimal hr (by decide) rfl (qa_cons (qe_ixK K (qe_var (i := 1) rfl (by first | exact .inl rfl | exact .inr (.inl rfl) | exact .inr (.inr rfl))) qe_int) qa_nil)) qe_str) (qe_callK K c_decimal hr (by decide) rfl (qa_cons (qe_ixK K (qe_var (i := 1) rfl (by first | exact .inl rfl | exact .inr (.inl rfl) | exact .inr (.inr rfl))) qe_int) qa_nil))) qa_nil)))) qa_nil)))), fun vs M Q h => ?_⟩
  obtain ⟨x, n, d, rfl, hx, hn, hd, kQ⟩ := h
  have := nL_le hn
  have := nL_le hd
  have := nL_le hx
  walk_at "s"
  refine ⟨x, rfl, hx, i0 ⟨n, rfl, hn, cat_TL (b := [47]) rfl (by show _ + 1 ≤ _; omega) (i1 ⟨d, rfl, hd, cat_T (by rw [List.length_append]; show _ + 1 + _ ≤ _; omega) ?_⟩)⟩⟩
  intro a M1 na l1 m1
  refine ⟨a, [[97, 115, 107], TL.numL x, TL.numL n ++ [47] ++ TL.numL d], rfl, m1, ?_, M, l1, kQ⟩
  simp only [List.map_cons, List.map_nil, List.sum_cons, List.sum_nil, List.length_cons, List.length_nil, List.length_append]
  omega
def sp_say : PSp := fun ps M Q => ∃ x n d : Nat, ps = [.int x, .int n, .int d] ∧ x < 2 ^ 14000 ∧ n < 2 ^ 14000 ∧ d < 2 ^ 14000 ∧ Q (T (lineL (sayW x n d))) M
theorem sp_say_len : ∀ vs M Q, sp_say vs M Q → vs.length = 3 := fun vs M Q ⟨a, b, c, e', _⟩ => by rw [e']; rfl
abbrev s_say_line : Stmt := top 35
theorem sc_say_line : FnScope ["answer", "mode", "lot"] ["answer", "mode", "lot"] (defScope s_say_line) := ⟨rfl, rfl, rfl, by decide +kernel, rfl, by decide +kernel, by decide +kernel⟩
theorem c_say_line (F : Std K mg "say_line" s_say_line) (B : BFree mg) (c_decimal : C8.Cal P w K mg base 1 "decimal" (toSp K sp_dec) []) (c_sealed : C8.Cal P w K mg base 2 "sealed" (toSp K sp_words) []) : C8.Cal P w K mg base 3 "say_line" (toSp K sp_say) [] := by
  refine F.cal sc_say_line sp_say_len (fun _ _ _ _ _ _ us hl => match us, hl with | [_, _, _], _ => rfl) (fun f cdv A outer s H E hr => ?_)
  have nd := sc_say_line.nd
  refine ⟨_, _, (qss_one (qs_ret (qe_callK K c_sealed hr (by decide) rfl (qa_cons (qe_lst (qa_cons qe_str (qa_cons (qe_callK K c_decimal hr (by decide) rfl (qa_cons (qe_var (i := 0) rfl (by first | exact .inl rfl | exact .inr (.inl rfl) | exact .inr (.inr rfl))) qa_nil)) (qa_cons (qe_callK K c_decimal hr (by decide) rfl (qa_cons (qe_var (i := 1) rfl (by first | exact .inl rfl | exact .inr (.inl rfl) | exact .inr (.inr rfl))) qa_nil)) (qa_cons (qe_callK K c_decimal hr (by decide) rfl (qa_cons (qe_var (i := 2) rfl (by first | exact .inl rfl | exact .inr (.inl rfl) | exact .inr (.inr rfl))) qa_nil)) qa_nil))))) qa_nil)))), fun vs M Q h => ?_⟩
  obtain ⟨x, n, d, rfl, hx, hn, hd, kQ⟩ := h
  have := nL_le hn
  have := nL_le hd
  have := nL_le hx
  walk_at "s"
  refine ⟨x, rfl, hx, n, rfl, hn, d, rfl, hd, ?_⟩
  intro a M1 na l1 m1
  refine ⟨a, [[115, 97, 121], TL.numL x, TL.numL n, TL.numL d], rfl, m1, ?_, M, l1, kQ⟩
  simp only [List.map_cons, List.map_nil, List.sum_cons, List.sum_nil, List.length_cons, List.length_nil, List.length_append]
  omega
/-- a word as a small number -/
def digs (w : List Nat) : Bool := w.all fun c => decide (48 ≤ c) && decide (c ≤ 57)
def smallN (w : List Nat) : Int := if (1 ≤ w.length ∧ w.length ≤ 6) ∧ digs w = true then (NumText.digitsVal w : Nat) else -1
def sp_small : PSp := fun ps M Q => ∃ w : List Nat, ps = [T w] ∧ w.length < 2 ^ 20 ∧ Q (.int (smallN w)) M
theorem sp_small_len : ∀ vs M Q, sp_small vs M Q → vs.length = 1 := fun vs M Q ⟨a, e', _⟩ => by rw [e']; rfl
theorem in_digits (c : Nat) : decide (c ∈ (Str.ofString "0123456789").cps.toList) = (decide (48 ≤ c) && decide (c ≤ 57)) := by
  have e : (Str.ofString "0123456789").cps.toList = [48, 49, 50, 51, 52, 53, 54, 55, 56, 57] := rfl
  rw [e, Bool.eq_iff_iff]
  simp only [decide_eq_true_eq, Bool.and_eq_true, List.mem_cons, List.not_mem_nil, or_false]
  omega
abbrev s_small_number : Stmt := top 36
theorem sc_small_number : FnScope ["word", "character"] ["word"] (defScope s_small_number) := ⟨rfl, rfl, rfl, by decide +kernel, rfl, by decide +kernel, by decide +kernel⟩
theorem c_small_number (F : Std K mg "small_number" s_small_number) (B : BFree mg) (h_DIGITS : GCS mg "DIGITS" "0123456789") (h_MOST_DIGITS : GCI mg "MOST_DIGITS" 6) : C8.Cal P w K mg base 1 "small_number" (toSp K sp_small) [] := by
  refine F.cal sc_small_number sp_small_len (fun _ _ _ _ _ _ us hl => match us, hl with | [_], _ => rfl) (fun f cdv A outer s H E hr => ?_)
  have nd := sc_small_number.nd
  refine ⟨_, _, (qss_cons (qs_if (qt_not (qt_chain op_le op_le ar_le ar_le qe_int (qe_callBK K ac_len call_len rfl B.f_len PySem.boot_len (qa_cons (qe_var (i := 0) rfl (by first | exact .inl rfl | exact .inr (.inl rfl) | exact .inr (.inr rfl))) qa_nil)) (h_MOST_DIGITS.qe rfl))) (qss_one (qs_ret (qe_neg qe_int))) qss_nil)
      (qss_cons (qs_for PassesOwn.never rfl (qi_str (qe_var (i := 0) rfl (by first | exact .inl rfl | exact .inr (.inl rfl) | exact .inr (.inr rfl)))) (qg_name (i := 1) nd rfl (by first | exact .inl rfl | exact .inr rfl)) (qss_one (qs_if (qt_cmp op_notIn_sign ar_notIn (qe_var (i := 1) rfl (by first | exact .inl rfl | exact .inr (.inl rfl) | exact .inr (.inr rfl))) (h_DIGITS.qe rfl) (by rfl)) (qss_one (qs_ret (qe_neg qe_int))) qss_nil)))
      (qss_one (qs_ret (qe_callTyK K ac_int cr_int rfl B.f_int (by decide +kernel) (qa_cons (qe_var (i := 0) rfl (by first | exact .inl rfl | exact .inr (.inl rfl) | exact .inr (.inr rfl))) qa_nil)))))), fun vs M Q h => ?_⟩
  obtain ⟨w, rfl, hw, kQ⟩ := h
  walk_at "s"
  refine len_T hw ?_
  dsimp only
  have kN : ∀ b : Bool, b = false → (∀ h : (1 ≤ w.length ∧ w.length ≤ 6) ∧ digs w = true, b = true) → Q (.int (-1)) M := fun b hb h => by
    have e : smallN w = -1 := by
      unfold smallN
      rw [if_neg]
      intro h2
      have := h h2
      rw [hb] at this
      cases this
    rw [← e]
    exact kQ
  refine ⟨fun h1 => ⟨fun h2 => ?_, fun h2 => ⟨M, Le.refl, ?_⟩⟩, fun h1 => ⟨fun h2 => (by cases h2), fun _ => ⟨M, Le.refl, ?_⟩⟩⟩
  · have h1' : 1 ≤ w.length := by have := of_decide_eq_true h1; omega
    have h2' : w.length ≤ 6 := by have := of_decide_eq_true h2; omega
    refine for_str (fun k ρ M' => M' = M ∧ digs (w.take k) = true ∧ ∃ u, ρ = [some (T w), u]) ⟨rfl, rfl, _, rfl⟩ (fun k c ρ M' e ⟨eM, hd, u, eρ⟩ => ?_) (fun ρ M' ⟨eM, hd, u, eρ⟩ => ?_)
    · subst eM eρ
      walk_at "s"
      refine ⟨c, rfl, ?_⟩
      rw [in_digits]
      refine ⟨fun h3 => ⟨M', Le.refl, ?_⟩, fun h3 => ⟨rfl, ?_, _, rfl⟩⟩
      · refine kN (decide (48 ≤ c) && decide (c ≤ 57)) (by cases z : (decide (48 ≤ c) && decide (c ≤ 57)) with | false => rfl | true => rw [z] at h3; cases h3) fun h4 => ?_
        have := List.all_eq_true.mp h4.2 c (List.mem_of_getElem? e)
        exact this
      · unfold digs at hd ⊢
        rw [List.take_succ, List.all_append, hd, e]
        show (true && ([c].all _)) = true
        cases z : (decide (48 ≤ c) && decide (c ≤ 57)) with
        | true => simp [z]
        | false => rw [z] at h3; cases h3
    · subst eM eρ
      rw [List.take_length] at hd
      walk_at "s"
      have hne : w ≠ [] := by intro e; subst e; simp at h1'
      refine ⟨_, int_S hd hne (by omega), by rw [S_len]; omega, M', Le.refl, ?_⟩
      unfold smallN at kQ
      rw [if_pos ⟨⟨h1', h2'⟩, hd⟩] at kQ
      exact kQ
  · exact kN false rfl (fun h => by have := of_decide_eq_false h2; omega)
  · exact kN false rfl (fun h => by have := of_decide_eq_false h1; omega)
/-- parts of a text -/
theorem spl_ne (s : Nat) : ∀ (l acc : List Nat), TL.spl [s] 0 acc l ≠ []
  | [], acc => by rw [TL.spl_nil]; simp
  | c :: r, acc => by
    by_cases h : TL.pre [s] (c :: r) = true
    · rw [TL.spl_hit h]; simp
    · rw [TL.spl_miss (by simpa using h)]
      exact spl_ne s r _
theorem pre_one (s c : Nat) (r : List Nat) : TL.pre [s] (c :: r) = decide (c = s) := by
  show ((c :: r).take 1 == [s]) = _
  rw [List.take_succ_cons, List.take_zero]
  by_cases h : c = s
  · subst h; simp
  · simp [h]
theorem join_cons {s : List Nat} {p : List Nat} {ps : List (List Nat)} (h : ps ≠ []) : TL.joinL s (p :: ps) = p ++ (s ++ TL.joinL s ps) := by
  cases ps with
  | nil => exact absurd rfl h
  | cons q r => rfl
theorem join_spl (s : Nat) : ∀ (l acc : List Nat), TL.joinL [s] (TL.spl [s] 0 acc l) = acc ++ l
  | [], acc => by rw [TL.spl_nil]; simp [TL.joinL]
  | c :: r, acc => by
    by_cases h : c = s
    · have h' : TL.pre [s] (c :: r) = true := by rw [pre_one]; simpa using h
      rw [TL.spl_hit h', show [s].length - 1 = 0 from rfl, join_cons (spl_ne s _ _), join_spl s r [], h]
      rfl
    · have h' : TL.pre [s] (c :: r) = false := by rw [pre_one]; simpa using h
      rw [TL.spl_miss h', join_spl s r (acc ++ [c])]
      simp
theorem part_len {s : List Nat} : ∀ {ps : List (List Nat)} {p : List Nat}, p ∈ ps → p.length ≤ (TL.joinL s ps).length
  | [], _, h => by cases h
  | [q], p, h => by
    rw [List.mem_singleton.mp h]
    exact Nat.le_refl _
  | q :: r :: t, p, h => by
    rw [join_cons (by simp)]
    rcases List.mem_cons.mp h with rfl | h
    · rw [List.length_append]; omega
    · have := part_len (s := s) h
      rw [List.length_append, List.length_append]; omega
theorem spl_len {s : Nat} {l p : List Nat} (h : p ∈ TL.spl [s] 0 [] l) : p.length ≤ l.length := by
  have := part_len (s := [s]) h
  rw [join_spl] at this
  exact this
theorem spl_count (s : Nat) : ∀ (l acc : List Nat), (TL.spl [s] 0 acc l).length ≤ l.length + 1
  | [], acc => by rw [TL.spl_nil]; simp
  | c :: r, acc => by
    by_cases h : TL.pre [s] (c :: r) = true
    · rw [TL.spl_hit h]
      have := spl_count s r []
      simpa using this
    · rw [TL.spl_miss (by simpa using h)]
      have := spl_count s r (acc ++ [c])
      simp only [List.length_cons]
      omega
/-- the words of a line -/
abbrev words (l : List Nat) : List (List Nat) := TL.spl [32] 0 [] l
abbrev lines (l : List Nat) : List (List Nat) := TL.spl [10] 0 [] l
theorem split_T {l b : List Nat} {M : Mp} {Q : KE} (hb : b ≠ []) (hk : b.all (· < 256) = true) (h : l.length + 2 < 2 ^ 20) (q : ∀ a M', M a = none → Le M M' → M' a = some (.lst ((TL.spl b 0 [] l).map T)) → Q (.ref a) M') : pSplit (T l) [.str (S b)] M Q := by
  refine ⟨?_, ?_, fun a M' na l' m => q a M' na l' ?_⟩
  · rw [S_len]
    cases b with
    | nil => exact absurd rfl hb
    | cons x y => rfl
  · rw [S_len]
    exact Nat.le_of_lt (Nat.lt_of_lt_of_le h (by decide))
  · rw [split_S hb hk, List.map_map] at m
    exact m
def fieldN (l : List Nat) (p : Nat) : Int := match (words l)[p]? with
  | none => -1
  | some w => smallN w
def sp_field : PSp := fun ps M Q => ∃ (l : List Nat) (p : Nat), ps = [T l, .int p] ∧ l.length + 2 < 2 ^ 20 ∧ Q (.int (fieldN l p)) M
theorem sp_field_len : ∀ vs M Q, sp_field vs M Q → vs.length = 2 := fun vs M Q ⟨a, b, e', _⟩ => by rw [e']; rfl
abbrev s_field : Stmt := top 37
theorem sc_field : FnScope ["line", "place", "words"] ["line", "place"] (defScope s_field) := ⟨rfl, rfl, rfl, by decide +kernel, rfl, by decide +kernel, by decide +kernel⟩
theorem c_field (F : Std K mg "field" s_field) (B : BFree mg) (c_small_number : C8.Cal P w K mg base 1 "small_number" (toSp K sp_small) []) : C8.Cal P w K mg base 2 "field" (toSp K sp_field) [] := by
  refine F.cal sc_field sp_field_len (fun _ _ _ _ _ _ us hl => match us, hl with | [_, _], _ => rfl) (fun f cdv A outer s H E hr => ?_)
  have nd := sc_field.nd
  refine ⟨_, _, (qss_cons (qs_set (i := 2) nd rfl (by first | exact .inl rfl | exact .inr rfl) (qe_bmSK K PySem.F.plainAttrs_str PySem.F.slot_str_split PySem.F.type_str_split am_split mt_split (qe_var (i := 0) rfl (by first | exact .inl rfl | exact .inr (.inl rfl) | exact .inr (.inr rfl))) (qa_cons qe_str qa_nil)))
      (qss_cons (qs_if (qt_ge (qe_var (i := 1) rfl (by first | exact .inl rfl | exact .inr (.inl rfl) | exact .inr (.inr rfl))) (qe_callBK K ac_len call_len rfl B.f_len PySem.boot_len (qa_cons (qe_var (i := 2) rfl (by first | exact .inl rfl | exact .inr (.inl rfl) | exact .inr (.inr rfl))) qa_nil))) (qss_one (qs_ret (qe_neg qe_int))) qss_nil)
      (qss_one (qs_ret (qe_callK K c_small_number hr (by decide) rfl (qa_cons (qe_ixK K (qe_var (i := 2) rfl (by first | exact .inl rfl | exact .inr (.inl rfl) | exact .inr (.inr rfl))) (qe_var (i := 1) rfl (by first | exact .inl rfl | exact .inr (.inl rfl) | exact .inr (.inr rfl)))) qa_nil)))))), fun vs M Q h => ?_⟩
  obtain ⟨l, p, rfl, hl, kQ⟩ := h
  walk_at "s"
  refine split_T (b := [32]) (by simp) (by decide) hl (fun a M1 na l1 m1 => len_l m1 ?_)
  rw [List.length_map]
  unfold fieldN at kQ
  refine ⟨fun h1 => ⟨M, l1, ?_⟩, fun h1 => ?_⟩
  · have : (words l).length ≤ p := by simpa using h1
    rw [List.getElem?_eq_none_iff.mpr this] at kQ
    exact kQ
  · have : p < (words l).length := by simpa using h1
    obtain ⟨w, e, hw⟩ := mem_get this
    rw [e] at kQ
    refine ix_l m1 (by omega) (y := T w) (by rw [Int.toNat_natCast, List.getElem?_map, e]; rfl) ⟨w, rfl, ?_, M, l1, kQ⟩
    have := spl_len hw
    omega
/-- the whole lines of a journal -/
def wholeL (l : List Nat) : List (List Nat) := (lines l).dropLast.map fun p => p ++ [10]
def sp_whole : PSp := fun ps M Q => ∃ (l : List Nat), ps = [T l] ∧ l.length + 2 < 2 ^ 20 ∧ ∀ a M', M a = none → Le M M' → M' a = some (.lst ((wholeL l).map T)) → Q (.ref a) M'
theorem sp_whole_len : ∀ vs M Q, sp_whole vs M Q → vs.length = 1 := fun vs M Q ⟨a, e', _⟩ => by rw [e']; rfl
theorem cut_last (xs : List CR.P) : cutP xs none (some (-1)) = xs.dropLast := by
  unfold cutP HT.sIx
  have e : (-1 + (xs.length : Int)).toNat = xs.length - 1 := by omega
  simp only [List.drop_zero, Nat.sub_zero, show (-1 : Int) < 0 by decide, if_true, e]
  rw [List.dropLast_eq_take]
abbrev s_whole_lines : Stmt := top 38
theorem sc_whole_lines : FnScope ["journal", "parts", "part"] ["journal"] (defScope s_whole_lines) := ⟨rfl, rfl, rfl, by decide +kernel, rfl, by decide +kernel, by decide +kernel⟩
theorem c_whole_lines (F : Std K mg "whole_lines" s_whole_lines) (B : BFree mg) : C8.Cal P w K mg base 1 "whole_lines" (toSp K sp_whole) [] := by
  refine F.cal sc_whole_lines sp_whole_len (fun _ _ _ _ _ _ us hl => match us, hl with | [_], _ => rfl) (fun f cdv A outer s H E hr => ?_)
  have nd := sc_whole_lines.nd
  refine ⟨_, _, (qss_cons (qs_set (i := 1) nd rfl (by first | exact .inl rfl | exact .inr rfl) (qe_bmSK K PySem.F.plainAttrs_str PySem.F.slot_str_split PySem.F.type_str_split am_split mt_split (qe_var (i := 0) rfl (by first | exact .inl rfl | exact .inr (.inl rfl) | exact .inr (.inr rfl))) (qa_cons qe_str qa_nil)))
      (qss_one (qs_ret (qe_lc (i := 2) rfl nd (qi_seqK K (qe_sliceK K (qe_var (i := 1) rfl (by first | exact .inl rfl | exact .inr (.inl rfl) | exact .inr (.inr rfl))) qo_none (qo_some (qe_neg qe_int)))) (blkOk_by (by kernel_rfl)) (fun _ _ _ _ _ => pg_name (i := 2) nd rfl (Or.inl rfl)) (fun _ _ _ _ _ => qts_nil) (fun _ _ _ _ _ => (qe_plusK K (qe_var (i := 2) rfl (by first | exact .inl rfl | exact .inr (.inl rfl) | exact .inr (.inr rfl))) qe_str)))))), fun vs M Q h => ?_⟩
  obtain ⟨l, rfl, hl, kQ⟩ := h
  walk_at "s"
  refine split_T (b := [10]) (by simp) (by decide) hl (fun a M1 na l1 m1 => ?_)
  refine sl_l m1 (fun b M2 nb l2 m2 => ?_)
  rw [cut_last] at m2
  walk_at "d"
  rw [m2]
  have hc := spl_count 10 l []
  refine lc_lstM m2 (fun x => match x with | .str z => .str (z ++ S [10]) | _ => .non) (szl _ (by rw [List.length_dropLast, List.length_map]; omega)) (fun k x M3 e hx l3 => ?_) (fun c M3 nc l3 m3 => ?_)
  · obtain ⟨p, hp, rfl⟩ := List.mem_map.mp (List.dropLast_subset _ hx)
    have := spl_len hp
    walk_at "s"
    exact cat_TL (b := [10]) rfl (by show _ + 1 ≤ _; omega) ⟨Le.refl, fun _ _ _ => tsnoc e (by show CR.P.str (S (p ++ [10])) = .str (S p ++ S [10]); rw [S_cat])⟩
  · have e : ((lines l).map T).dropLast.map (fun x => match x with | .str z => .str (z ++ S [10]) | _ => .non) = (wholeL l).map T := by
      unfold wholeL
      rw [← List.map_dropLast, List.map_map, List.map_map]
      refine List.map_congr_left fun p _ => ?_
      show CR.P.str (S p ++ S [10]) = .str (S (p ++ [10]))
      rw [S_cat]
    rw [e] at m3
    exact ⟨M3, Le.refl, kQ c M3 (l1.none (l2.none nc)) ((l1.trans l2).trans l3) m3⟩
end
end CR

set_option Elab.async false
set_option linter.all false
set_option maxRecDepth 100000
set_option maxHeartbeats 4000000
set_option exponentiation.threshold 300000
namespace CR
open PySem PySem.Spec L2
local macro_rules | `(tactic| walk_at "s") => `(tactic| dsimp only [fRet, fSeq, fCut, fAsg, fDrop, fIfS, fNext, fBreak, fCont, fVar, fC, fOp, fCall, fCons, fNil, fCB, fBMS, fBML, fTup, fLst, fTest, fNot, fAnd, fOr, fAndV, fOrV, fNotV, fIf, fNeg, fChain, fGName, fGTup, fGCons, fGNil, fAugI, fSl, fPart, fNoPart, fRevL, fLstRg, fRepl, fFld, fSFld, fMeth, fProp, fPropSet, fMake, fMakeV, fCMeth, fGSub, fAugSub, fISeq, fIStr, fIRng1, fIRng2, fFor, fWhile, fLc, fYes, fIsi, fOf, fSeqX, fIfX, fRaise, fSetMX, fTry, fFldX, fIsX, fCMK, fMD, nth, lawS, startP, setS, clrS, wipeS, fnEnds, pI0, pI])
local macro_rules | `(tactic| walk_at "d") => `(tactic| try dsimp only)
section
variable {P : Program} {w : World} {K : PySem.W.Frag} {mg : Str → Option Value} {base : Heap}
open SX
/-! ### the fields of a line -/
theorem small_num {n : Nat} (h : n < 10 ^ 6) : smallN (TL.numL n) = n := by
  have h1 := TL.numL_len (k := 6) (by decide) h
  have h2 : 1 ≤ (TL.numL n).length := by
    cases e : TL.numL n with
    | nil => exact absurd e (TL.numL_ne n)
    | cons c r => simp
  have h3 : digs (TL.numL n) = true := List.all_eq_true.mpr fun c hc => by
    have := TL.numL_digits n c hc
    simpa using this
  unfold smallN
  rw [if_pos ⟨⟨h2, h1⟩, h3⟩, TL.numL_val]
theorem num32 (n : Nat) : 32 ∉ TL.numL n := TL.numL_free (by omega)
theorem tail32 (n : Nat) : 32 ∉ ([35] ++ TL.numL n ++ [10] : List Nat) := by
  simp only [List.mem_append, List.mem_singleton, not_or]
  exact ⟨⟨by decide, num32 n⟩, by decide⟩
theorem words_join {ws : List (List Nat)} (hne : ws ≠ []) (h : ∀ w ∈ ws, 32 ∉ w) : words (TL.joinL [32] ws) = ws := TL.spl_join hne h
theorem line_lot (n : Nat) : lineL (lotW n) = TL.joinL [32] [[108, 111, 116], TL.numL n, [35] ++ TL.numL (sealN (lotW n)) ++ [10]] := by
  unfold lineL lotW
  simp [TL.joinL]
theorem line_ask (x n d : Nat) : lineL (askW x n d) = TL.joinL [32] [[97, 115, 107], TL.numL x, TL.numL n ++ [47] ++ TL.numL d, [35] ++ TL.numL (sealN (askW x n d)) ++ [10]] := by
  unfold lineL askW
  simp [TL.joinL]
theorem line_say (a m l : Nat) : lineL (sayW a m l) = TL.joinL [32] [[115, 97, 121], TL.numL a, TL.numL m, TL.numL l, [35] ++ TL.numL (sealN (sayW a m l)) ++ [10]] := by
  unfold lineL sayW
  simp [TL.joinL]
theorem mem3 {p : List Nat → Prop} {a b c : List Nat} (h1 : p a) (h2 : p b) (h3 : p c) : ∀ w ∈ [a, b, c], p w := fun w hw => by
  simp only [List.mem_cons, List.not_mem_nil, or_false] at hw
  rcases hw with rfl | rfl | rfl <;> assumption
theorem mem4 {p : List Nat → Prop} {a b c d : List Nat} (h1 : p a) (h2 : p b) (h3 : p c) (h4 : p d) : ∀ w ∈ [a, b, c, d], p w := fun w hw => by
  simp only [List.mem_cons, List.not_mem_nil, or_false] at hw
  rcases hw with rfl | rfl | rfl | rfl <;> assumption
theorem mem5 {p : List Nat → Prop} {a b c d e : List Nat} (h1 : p a) (h2 : p b) (h3 : p c) (h4 : p d) (h5 : p e) : ∀ w ∈ [a, b, c, d, e], p w := fun w hw => by
  simp only [List.mem_cons, List.not_mem_nil, or_false] at hw
  rcases hw with rfl | rfl | rfl | rfl | rfl <;> assumption
theorem field_lot {n : Nat} (h : n < 10 ^ 6) : fieldN (lineL (lotW n)) 1 = n := by
  unfold fieldN
  rw [line_lot, words_join (by simp) (mem3 (by decide) (num32 n) (tail32 _))]
  exact small_num h
theorem frac32 (n d : Nat) : 32 ∉ (TL.numL n ++ [47] ++ TL.numL d : List Nat) := by
  simp only [List.mem_append, List.mem_singleton, not_or]
  exact ⟨⟨num32 n, by decide⟩, num32 d⟩
theorem field_ask {x : Nat} (n d : Nat) (h : x < 10 ^ 6) : fieldN (lineL (askW x n d)) 1 = x := by
  unfold fieldN
  rw [line_ask, words_join (by simp) (mem4 (by decide) (num32 x) (frac32 n d) (tail32 _))]
  exact small_num h
theorem field_say {a : Nat} (m l : Nat) (h : a < 10 ^ 6) : fieldN (lineL (sayW a m l)) 1 = a := by
  unfold fieldN
  rw [line_say, words_join (by simp) (mem5 (by decide) (num32 a) (num32 m) (num32 l) (tail32 _))]
  exact small_num h
theorem field_say3 {l : Nat} (a m : Nat) (h : l < 10 ^ 6) : fieldN (lineL (sayW a m l)) 3 = l := by
  unfold fieldN
  rw [line_say, words_join (by simp) (mem5 (by decide) (num32 a) (num32 m) (num32 l) (tail32 _))]
  exact small_num h
def askC : List Nat := [97, 115, 107, 32]
theorem take_ask (x n d : Nat) : (lineL (askW x n d)).take 4 = askC := by
  unfold lineL askW
  rfl
theorem take_say (a m l : Nat) : (lineL (sayW a m l)).take 4 ≠ askC := by
  unfold lineL sayW askC
  simp

/-! ### what a journal tells -/
structure Rd where
  lot : Nat
  mode : Nat
  n : Int
  d : Int
  talk : List (Nat × Nat)
  wait : Option Nat
structure Dk where
  h : Hs
  rates : List (List (Int × Int))
  bn : Int
  bd : Int
  st : Nat
def pay (c : Int × Int) (n d : Int) : Int × Int := (n * c.1 / (Int.gcd (n * c.1) (d * c.2) : Int), d * c.2 / (Int.gcd (n * c.1) (d * c.2) : Int))
def qsOf (D : Dk) (m : Nat) : List Qn := D.h.modes.getD m []
def csOf (D : Dk) (m : Nat) : List (Int × Int) := D.rates.getD m []
def askOn (D : Dk) (r : Rd) (l : List Nat) : Option Rd :=
  if 0 ≤ fieldN l 1 ∧ fieldN l 1 < (qsOf D r.mode).length then
    let p := pay ((csOf D r.mode).getD (fieldN l 1).toNat (1, 1)) r.n r.d
    if D.bn * p.2 < p.1 * D.bd then none
    else if l = lineL (askW (fieldN l 1).toNat p.1.toNat p.2.toNat) then some { r with n := p.1, d := p.2, wait := some (fieldN l 1).toNat } else none
  else none
def gsOf (D : Dk) (m w : Nat) : List (Nat × Nat) := match (qsOf D m)[w]? with
  | some q => q.goes
  | none => []
def sayOn (D : Dk) (r : Rd) (l : List Nat) : Option Rd := match r.wait with
  | none => none
  | some w =>
    if 0 ≤ fieldN l 1 ∧ fieldN l 1 < (gsOf D r.mode w).length then
      let g := (gsOf D r.mode w).getD (fieldN l 1).toNat (0, 0)
      if (0 ≤ fieldN l 3 ∧ fieldN l 3 < D.h.lots.length) ∧ ¬ (g.2 = 0 ∧ fieldN l 3 ≠ r.lot) then
        if l = lineL (sayW (fieldN l 1).toNat g.1 (fieldN l 3).toNat) then some { r with lot := (fieldN l 3).toNat, mode := g.1, talk := r.talk ++ [(w, (fieldN l 1).toNat)], wait := none } else none
      else none
    else none
def readOn (D : Dk) (r : Rd) (l : List Nat) : Option Rd := if l.take 4 = askC then askOn D r l else sayOn D r l
def readAll (D : Dk) : Rd → List (List Nat) → Rd × List (List Nat)
  | r, [] => (r, [])
  | r, l :: ls => match readOn D r l with
    | none => (r, [])
    | some r' => ((readAll D r' ls).1, l :: (readAll D r' ls).2)
def beginN (D : Dk) (l : List Nat) : Option Nat := if (0 ≤ fieldN l 1 ∧ fieldN l 1 < D.h.lots.length) ∧ l = lineL (lotW (fieldN l 1).toNat) then some (fieldN l 1).toNat else none
def rd0 (lot : Nat) : Rd := ⟨lot, 0, 1, 1, [], none⟩
def readJ (D : Dk) (l : List Nat) : Option (Rd × List Nat) := match wholeL l with
  | [] => none
  | l0 :: ls => match beginN D l0 with
    | none => none
    | some n => some ((readAll D (rd0 n) ls).1, l0 ++ (readAll D (rd0 n) ls).2.flatten)
/-- a desk in bounds -/
structure Dk.Ok (D : Dk) : Prop where
  h : D.h.Ok2
  r : RatesOk D.h.modes D.rates
  b : BudOk D.bn D.bd
  s : D.st < D.h.rd.length
  g : D.bd ≤ D.bn
structure Rd.Ok (D : Dk) (k : Nat) (r : Rd) : Prop where
  lot : r.lot < D.h.lots.length
  mode : r.mode < D.h.modes.length
  wait : ∀ w, r.wait = some w → w < (qsOf D r.mode).length
  bt : Bt (140 * (k + 1)) (3 * (k + 1)) r.n r.d
  pos : 0 < r.n
  tk : r.talk.length ≤ k
section
variable {D : Dk} (ok : D.Ok)
include ok
theorem Dk.mode {m : Nat} (h : m < D.h.modes.length) : D.h.modes[m]? = some (qsOf D m) ∧ D.rates[m]? = some (csOf D m) ∧ (csOf D m).length = (qsOf D m).length := by
  have hl := congrArg List.length ok.r.len
  rw [List.length_map, List.length_map] at hl
  have e1 : D.h.modes[m]? = some D.h.modes[m] := by simp [h]
  have e2 : D.rates[m]? = some (D.rates[m]'(by omega)) := List.getElem?_eq_getElem (by omega)
  have f1 : qsOf D m = D.h.modes[m] := by unfold qsOf; rw [List.getD_eq_getElem?_getD, e1]; rfl
  have f2 : csOf D m = D.rates[m]'(by omega) := by unfold csOf; rw [List.getD_eq_getElem?_getD, e2]; rfl
  refine ⟨by rw [f1]; exact e1, by rw [f2]; exact e2, ?_⟩
  have := congrArg (fun x => x[m]?) ok.r.len
  simp only [List.getElem?_map, e1, e2, Option.map_some, Option.some.injEq] at this
  rw [f1, f2]
  exact this
theorem Dk.cost {m x : Nat} (h : m < D.h.modes.length) (hx : x < (qsOf D m).length) : ∃ c, (csOf D m)[x]? = some c ∧ (csOf D m).getD x (1, 1) = c ∧ PrOk c.1 c.2 := by
  obtain ⟨e1, e2, e3⟩ := Dk.mode ok h
  have hx' : x < (csOf D m).length := by omega
  have e : (csOf D m)[x]? = some (csOf D m)[x] := by simp [hx']
  refine ⟨(csOf D m)[x], e, by rw [List.getD_eq_getElem?_getD, e]; rfl, ok.r.ok _ (List.mem_of_getElem? e2) _ (List.getElem_mem hx')⟩
theorem Dk.quest {m x : Nat} (h : m < D.h.modes.length) (hx : x < (qsOf D m).length) : ∃ q, (qsOf D m)[x]? = some q ∧ gsOf D m x = q.goes ∧ q.Ok D.h.rd.length D.h.lots.length D.h.modes.length := by
  obtain ⟨e1, e2, e3⟩ := Dk.mode ok h
  have e : (qsOf D m)[x]? = some (qsOf D m)[x] := by simp [hx]
  obtain ⟨⟨k, hk⟩, _⟩ := ok.h
  exact ⟨(qsOf D m)[x], e, by unfold gsOf; rw [e], (hk.mo _ (List.mem_of_getElem? e1)).2 _ (List.getElem_mem hx)⟩
theorem Dk.qlen {m : Nat} (h : m < D.h.modes.length) : (qsOf D m).length ≤ 8 := by
  obtain ⟨⟨k, hk⟩, _⟩ := ok.h
  exact (hk.mo _ (List.mem_of_getElem? (Dk.mode ok h).1)).1
theorem pay_ok {k : Nat} {n d : Int} {c : Int × Int} (hb : Bt (140 * (k + 1)) (3 * (k + 1)) n d) (hp : 0 < n) (hc : PrOk c.1 c.2) : Bt (140 * (k + 1 + 1)) (3 * (k + 1 + 1)) (pay c n d).1 (pay c n d).2 ∧ 0 < (pay c n d).1 := by
  have hm := hb.mul hc.bt
  refine ⟨(hm.nfr).up (by omega) (by omega), ?_⟩
  exact (nfr_div hm.2.1).2.2 (Int.mul_pos hp hc.1.1)
theorem readOn_ok {k : Nat} {r r' : Rd} {l : List Nat} (hr : r.Ok D k) (h : readOn D r l = some r') : r'.Ok D (k + 1) := by
  unfold readOn at h
  split at h
  · unfold askOn at h
    split at h
    · rename_i hx
      have hx' : (fieldN l 1).toNat < (qsOf D r.mode).length := by omega
      obtain ⟨c, c1, c2, c3⟩ := Dk.cost ok hr.mode hx'
      rw [c2] at h
      obtain ⟨b1, b2⟩ := pay_ok ok hr.bt hr.pos c3
      dsimp only at h
      split at h
      · cases h
      · split at h
        · cases h
          exact ⟨hr.lot, hr.mode, fun w hw => by cases hw; exact hx', b1, b2, Nat.le_succ_of_le hr.tk⟩
        · cases h
    · cases h
  · unfold sayOn at h
    split at h
    · cases h
    · rename_i w hw
      split at h
      · rename_i ha
        dsimp only at h
        split at h
        · rename_i hd
          split at h
          · cases h
            have hw' := hr.wait w hw
            obtain ⟨q, q1, q2, q3⟩ := Dk.quest ok hr.mode hw'
            have hg : ((gsOf D r.mode w).getD (fieldN l 1).toNat (0, 0)) ∈ q.goes := by
              rw [q2]
              rw [q2] at ha
              rw [List.getD_eq_getElem?_getD, List.getElem?_eq_getElem (by omega)]
              exact List.getElem_mem _
            refine ⟨by dsimp only; omega, (q3.2.1 _ hg).1, fun w hw => (by cases hw), hr.bt.up (by omega) (by omega), hr.pos, ?_⟩
            show (r.talk ++ [_]).length ≤ _
            rw [List.length_append]
            exact Nat.succ_le_succ hr.tk
          · cases h
        · cases h
      · cases h
theorem rd0_ok {n : Nat} (h : n < D.h.lots.length) : (rd0 n).Ok D 0 := by
  obtain ⟨⟨k, hk⟩, _⟩ := ok.h
  exact ⟨h, hk.ml.1, fun w hw => (by cases hw), by show Bt 140 3 1 1; unfold Bt; decide, show (0 : Int) < 1 by decide, Nat.le_refl _⟩
end
end
end CR

set_option Elab.async false
set_option linter.all false
set_option maxRecDepth 100000
set_option maxHeartbeats 4000000
set_option exponentiation.threshold 300000
namespace CR
open PySem PySem.Spec L2
local macro_rules | `(tactic| walk_at "s") => `(tactic| dsimp only [fRet, fSeq, fCut, fAsg, fDrop, fIfS, fNext, fBreak, fCont, fVar, fC, fOp, fCall, fCons, fNil, fCB, fBMS, fBML, fTup, fLst, fTest, fNot, fAnd, fOr, fAndV, fOrV, fNotV, fIf, fNeg, fChain, fGName, fGTup, fGCons, fGNil, fAugI, fSl, fPart, fNoPart, fRevL, fLstRg, fRepl, fFld, fSFld, fMeth, fProp, fPropSet, fMake, fMakeV, fCMeth, fGSub, fAugSub, fISeq, fIStr, fIRng1, fIRng2, fFor, fWhile, fLc, fYes, fIsi, fOf, fSeqX, fIfX, fRaise, fSetMX, fTry, fFldX, fIsX, fCMK, fMD, nth, lawS, startP, setS, clrS, wipeS, fnEnds, pI0, pI])
local macro_rules | `(tactic| walk_at "d") => `(tactic| try dsimp only)
section
variable {P : Program} {w : World} {K : PySem.W.Frag} {mg : Str → Option Value} {base : Heap}
open SX
theorem readAll_none {D : Dk} {r : Rd} {l : List Nat} {ls : List (List Nat)} (h : readOn D r l = none) : readAll D r (l :: ls) = (r, []) := by
  show (match readOn D r l with | none => (r, []) | some r' => ((readAll D r' ls).1, l :: (readAll D r' ls).2)) = _
  rw [h]
theorem readAll_some {D : Dk} {r r' : Rd} {l : List Nat} {ls : List (List Nat)} (h : readOn D r l = some r') : readAll D r (l :: ls) = ((readAll D r' ls).1, l :: (readAll D r' ls).2) := by
  show (match readOn D r l with | none => (r, []) | some r' => ((readAll D r' ls).1, l :: (readAll D r' ls).2)) = _
  rw [h]
def waitP : Option Nat → CR.P
  | none => .non
  | some w => I w
def Rd.p (r : Rd) : CR.P := .tup [I r.lot, I r.mode, fr r.n r.d, Gs r.talk, waitP r.wait]
def oR : Option Rd → CR.P
  | none => .non
  | some r => r.p
def oL : Option Nat → CR.P
  | none => .non
  | some n => (rd0 n).p
theorem ixm {α : Type} {p : α → CR.P} {xs : List α} {k : Nat} {x : α} {M : Mp} {Q : KE} (e : xs[k]? = some x) (q : Q (p x) M) : pIx (.tup (xs.map p)) (I k) M Q :=
  ix_t (by omega) (y := p x) (by rw [Int.toNat_natCast, List.getElem?_map, e]; rfl) q
theorem ixmi {α : Type} {p : α → CR.P} {xs : List α} {k : Int} {x : α} {M : Mp} {Q : KE} (h0 : 0 ≤ k) (e : xs[k.toNat]? = some x) (q : Q (p x) M) : pIx (.tup (xs.map p)) (.int k) M Q :=
  ix_t h0 (y := p x) (by rw [List.getElem?_map, e]; rfl) q
theorem lt14 {n : Nat} (h : n < 2 ^ 20) : n < 2 ^ 14000 := Nat.lt_of_lt_of_le h (Nat.pow_le_pow_right (by decide) (by decide))
theorem dec_S (a b : List Nat) : decide (S a = S b) = decide (a = b) := by
  by_cases h : a = b
  · subst h; simp
  · rw [decide_eq_false h, decide_eq_false fun e => h (S_inj e)]
theorem ne_T {a b : List Nat} {M : Mp} {Q : KE} (q : Q (.bl (!decide (a = b))) M) : pNeX (T a) (T b) M Q := by
  show Q (.bl (!decide (S a = S b))) M
  rw [dec_S]
  exact q
theorem eq_T {a b : List Nat} {M : Mp} {Q : KE} (q : Q (.bl (decide (a = b))) M) : pEqX (T a) (T b) M Q := by
  show Q (.bl (decide (S a = S b))) M
  rw [dec_S]
  exact q
theorem ndec {p : Prop} [Decidable p] (h : (!decide p) = true) : ¬ p := by simpa using h
theorem ndec' {p : Prop} [Decidable p] (h : (!decide p) = false) : p := by simpa using h
def sp_begin : PSp := fun ps M Q => ∃ (D : Dk) (l : List Nat), ps = [D.h.p, T l] ∧ D.Ok ∧ l.length + 2 < 2 ^ 20 ∧ Q (oL (beginN D l)) M
theorem sp_begin_len : ∀ vs M Q, sp_begin vs M Q → vs.length = 2 := fun vs M Q ⟨a, b, e', _⟩ => by rw [e']; rfl
abbrev s_begin : Stmt := top 39
theorem sc_begin : FnScope ["house", "line", "lot"] ["house", "line"] (defScope s_begin) := ⟨rfl, rfl, rfl, by decide +kernel, rfl, by decide +kernel, by decide +kernel⟩
theorem c_begin (F : Std K mg "begin" s_begin) (B : BFree mg) {a_ONE : Addr} (h_ONE : GCT mg K "ONE" a_ONE [.int 1, .int 1]) (c_field : C8.Cal P w K mg base 2 "field" (toSp K sp_field) []) (c_lot_line : C8.Cal P w K mg base 3 "lot_line" (toSp K sp_lot) []) : C8.Cal P w K mg base 4 "begin" (toSp K sp_begin) [] := by
  refine F.cal sc_begin sp_begin_len (fun _ _ _ _ _ _ us hl => match us, hl with | [_, _], _ => rfl) (fun f cdv A outer s H E hr => ?_)
  have nd := sc_begin.nd
  refine ⟨_, _, (qss_cons (qs_set (i := 2) nd rfl (by first | exact .inl rfl | exact .inr rfl) (qe_callK K c_field hr (by decide) rfl (qa_cons (qe_var (i := 1) rfl (by first | exact .inl rfl | exact .inr (.inl rfl) | exact .inr (.inr rfl))) (qa_cons qe_int qa_nil))))
      (qss_cons (qs_if (QW.t (qw_or (qt_not (qt_chain op_le op_lt ar_le ar_lt qe_int (qe_var (i := 2) rfl (by first | exact .inl rfl | exact .inr (.inl rfl) | exact .inr (.inr rfl))) (qe_callBK K ac_len call_len rfl B.f_len PySem.boot_len (qa_cons (qe_ixK K (qe_var (i := 0) rfl (by first | exact .inl rfl | exact .inr (.inl rfl) | exact .inr (.inr rfl))) qe_int) qa_nil)))) (qw_or1 (qt_neK K hr.units (qe_var (i := 1) rfl (by first | exact .inl rfl | exact .inr (.inl rfl) | exact .inr (.inr rfl))) (qe_callK K c_lot_line hr (by decide) rfl (qa_cons (qe_var (i := 2) rfl (by first | exact .inl rfl | exact .inr (.inl rfl) | exact .inr (.inr rfl))) qa_nil)) (nomark _))))) (qss_one (qs_ret qe_non)) qss_nil)
      (qss_one (qs_ret (qe_tup (qa_cons (qe_var (i := 2) rfl (by first | exact .inl rfl | exact .inr (.inl rfl) | exact .inr (.inr rfl))) (qa_cons qe_int (qa_cons (h_ONE.qe rfl) (qa_cons (qe_tup qa_nil) (qa_cons qe_non qa_nil)))))))))), fun vs M Q h => ?_⟩
  obtain ⟨D, l, rfl, ok, hl, kQ⟩ := h
  obtain ⟨⟨k, hk⟩, _⟩ := ok.h
  have hll := hk.ll
  walk_at "s"
  refine ⟨l, 1, rfl, hl, ?_⟩
  unfold beginN at kQ
  have kN : ¬ ((0 ≤ fieldN l 1 ∧ fieldN l 1 < D.h.lots.length) ∧ l = lineL (lotW (fieldN l 1).toNat)) → ∃ M'', Le M'' M ∧ Q .non M'' := fun h => ⟨M, Le.refl, by rw [if_neg h] at kQ; exact kQ⟩
  refine ⟨fun h1 => i3 (len_t ?_), fun h1 => ⟨fun h2 => (by cases h2), fun _ => kN fun h => ?_⟩⟩
  · rw [List.length_map]
    refine ⟨fun h2 => ?_, fun h2 => kN fun h => ?_⟩
    · have h1' := of_decide_eq_true h1
      have h2' := of_decide_eq_true h2
      rw [I_of h1'] 
      refine ⟨(fieldN l 1).toNat, rfl, lt14 (by omega), ?_⟩
      refine ne_T ⟨fun h3 => kN fun h => ndec h3 h.2, fun h3 => ⟨M, Le.refl, ?_⟩⟩
      rw [if_pos ⟨⟨h1', h2'⟩, ndec' h3⟩] at kQ
      exact kQ
    · have := of_decide_eq_false h2
      omega
  · have := of_decide_eq_false h1
    omega
def sp_qof : PSp := fun ps M Q => ∃ (D : Dk) (m w : Nat) (q : Qn), ps = [D.h.p, I m, I w] ∧ D.Ok ∧ m < D.h.modes.length ∧ (qsOf D m)[w]? = some q ∧ Q q.p M
theorem sp_qof_len : ∀ vs M Q, sp_qof vs M Q → vs.length = 3 := fun vs M Q ⟨a, b, c, d, e', _⟩ => by rw [e']; rfl
abbrev s_question_of : Stmt := top 20
theorem sc_question_of : FnScope ["house", "mode", "x"] ["house", "mode", "x"] (defScope s_question_of) := ⟨rfl, rfl, rfl, by decide +kernel, rfl, by decide +kernel, by decide +kernel⟩
theorem c_question_of (F : Std K mg "question_of" s_question_of) (B : BFree mg) : C8.Cal P w K mg base 1 "question_of" (toSp K sp_qof) [] := by
  refine F.cal sc_question_of sp_qof_len (fun _ _ _ _ _ _ us hl => match us, hl with | [_, _, _], _ => rfl) (fun f cdv A outer s H E hr => ?_)
  have nd := sc_question_of.nd
  refine ⟨_, _, (qss_one (qs_ret (qe_ixK K (qe_ixK K (qe_ixK K (qe_var (i := 0) rfl (by first | exact .inl rfl | exact .inr (.inl rfl) | exact .inr (.inr rfl))) qe_int) (qe_var (i := 1) rfl (by first | exact .inl rfl | exact .inr (.inl rfl) | exact .inr (.inr rfl)))) (qe_var (i := 2) rfl (by first | exact .inl rfl | exact .inr (.inl rfl) | exact .inr (.inr rfl)))))), fun vs M Q h => ?_⟩
  obtain ⟨D, m, w, q, rfl, ok, hm, hq, kQ⟩ := h
  walk_at "s"
  refine i4 (ixm (Dk.mode ok hm).1 ?_)
  exact ixm hq ⟨M, Le.refl, kQ⟩
def sp_aof : PSp := fun ps M Q => ∃ (q : Qn), ps = [q.p] ∧ Q (.int (q.goes.length : Nat)) M
theorem sp_aof_len : ∀ vs M Q, sp_aof vs M Q → vs.length = 1 := fun vs M Q ⟨d, e', _⟩ => by rw [e']; rfl
abbrev s_answers_of : Stmt := top 21
theorem sc_answers_of : FnScope ["question"] ["question"] (defScope s_answers_of) := ⟨rfl, rfl, rfl, by decide +kernel, rfl, by decide +kernel, by decide +kernel⟩
theorem c_answers_of (F : Std K mg "answers_of" s_answers_of) (B : BFree mg) : C8.Cal P w K mg base 1 "answers_of" (toSp K sp_aof) [] := by
  refine F.cal sc_answers_of sp_aof_len (fun _ _ _ _ _ _ us hl => match us, hl with | [_], _ => rfl) (fun f cdv A outer s H E hr => ?_)
  have nd := sc_answers_of.nd
  refine ⟨_, _, (qss_one (qs_ret (qe_callBK K ac_len call_len rfl B.f_len PySem.boot_len (qa_cons (qe_ixK K (qe_var (i := 0) rfl (by first | exact .inl rfl | exact .inr (.inl rfl) | exact .inr (.inr rfl))) qe_int) qa_nil)))), fun vs M Q h => ?_⟩
  obtain ⟨q, rfl, kQ⟩ := h
  walk_at "s"
  exact i2 (len_t (by rw [List.length_map]; exact ⟨M, Le.refl, kQ⟩))
def sp_step : PSp := fun ps M Q => ∃ (D : Dk) (m w : Nat) (a : Int), ps = [D.h.p, I m, .tup [I w, .int a]] ∧ D.Ok ∧ m < D.h.modes.length ∧ w < (qsOf D m).length ∧ Q (.bl (decide (0 ≤ a ∧ a < (gsOf D m w).length))) M
theorem sp_step_len : ∀ vs M Q, sp_step vs M Q → vs.length = 3 := fun vs M Q ⟨a, b, c, d, e', _⟩ => by rw [e']; rfl
abbrev s_is_step_of : Stmt := top 23
theorem sc_is_step_of : FnScope ["house", "mode", "step"] ["house", "mode", "step"] (defScope s_is_step_of) := ⟨rfl, rfl, rfl, by decide +kernel, rfl, by decide +kernel, by decide +kernel⟩
theorem c_is_step_of (F : Std K mg "is_step_of" s_is_step_of) (B : BFree mg) (c_answers_of : C8.Cal P w K mg base 1 "answers_of" (toSp K sp_aof) []) (c_question_of : C8.Cal P w K mg base 1 "question_of" (toSp K sp_qof) []) : C8.Cal P w K mg base 2 "is_step_of" (toSp K sp_step) [] := by
  refine F.cal sc_is_step_of sp_step_len (fun _ _ _ _ _ _ us hl => match us, hl with | [_, _, _], _ => rfl) (fun f cdv A outer s H E hr => ?_)
  have nd := sc_is_step_of.nd
  refine ⟨_, _, (qss_cons (qs_if (qt_not (qt_chain op_le op_lt ar_le ar_lt qe_int (qe_ixK K (qe_var (i := 2) rfl (by first | exact .inl rfl | exact .inr (.inl rfl) | exact .inr (.inr rfl))) qe_int) (qe_callBK K ac_len call_len rfl B.f_len PySem.boot_len (qa_cons (qe_ixK K (qe_ixK K (qe_var (i := 0) rfl (by first | exact .inl rfl | exact .inr (.inl rfl) | exact .inr (.inr rfl))) qe_int) (qe_var (i := 1) rfl (by first | exact .inl rfl | exact .inr (.inl rfl) | exact .inr (.inr rfl)))) qa_nil)))) (qss_one (qs_ret qe_bl)) qss_nil)
      (qss_one (qs_ret (qe_chain op_le op_lt ar_le ar_lt qe_int (qe_ixK K (qe_var (i := 2) rfl (by first | exact .inl rfl | exact .inr (.inl rfl) | exact .inr (.inr rfl))) qe_int) (qe_callK K c_answers_of hr (by decide) rfl (qa_cons (qe_callK K c_question_of hr (by decide) rfl (qa_cons (qe_var (i := 0) rfl (by first | exact .inl rfl | exact .inr (.inl rfl) | exact .inr (.inr rfl))) (qa_cons (qe_var (i := 1) rfl (by first | exact .inl rfl | exact .inr (.inl rfl) | exact .inr (.inr rfl))) (qa_cons (qe_ixK K (qe_var (i := 2) rfl (by first | exact .inl rfl | exact .inr (.inl rfl) | exact .inr (.inr rfl))) qe_int) qa_nil)))) qa_nil)))))), fun vs M Q h => ?_⟩
  obtain ⟨D, m, w, a, rfl, ok, hm, hw, kQ⟩ := h
  obtain ⟨q, q1, q2, q3⟩ := Dk.quest ok hm hw
  rw [q2] at kQ
  walk_at "s"
  refine i0 ⟨fun h1 => i4 (ixm (Dk.mode ok hm).1 (len_t ?_)), fun h1 => absurd (of_decide_eq_false h1) (by omega)⟩
  rw [List.length_map]
  refine ⟨fun h2 => ?_, fun h2 => absurd (of_decide_eq_false h2) (by omega)⟩
  refine i1 ⟨fun h3 => i0 ⟨D, m, w, q, rfl, ok, hm, q1, q, rfl, M, Le.refl, ?_⟩, fun h3 => ⟨M, Le.refl, ?_⟩⟩
  · rw [Bool.decide_and, h3, Bool.true_and] at kQ
    exact kQ
  · rw [Bool.decide_and, h3, Bool.false_and] at kQ
    exact kQ
/-- a reading in bounds -/
def sp_asked : PSp := fun ps M Q => ∃ (D : Dk) (r : Rd) (k : Nat) (l : List Nat), ps = [D.h.p, .tup (D.rates.map Prs), fr D.bn D.bd, r.p, T l] ∧ D.Ok ∧ r.Ok D k ∧ k ≤ 90 ∧ l.length + 2 < 2 ^ 20 ∧ Q (oR (askOn D r l)) M
theorem sp_asked_len : ∀ vs M Q, sp_asked vs M Q → vs.length = 5 := fun vs M Q ⟨a, b, c, d, e', _⟩ => by rw [e']; rfl
theorem toNat_lt {i : Int} {a b : Nat} (h : i.natAbs < 2 ^ a) (hab : a ≤ b) : i.toNat < 2 ^ b := Nat.lt_of_lt_of_le (by omega) (Nat.pow_le_pow_right (by decide) hab)
abbrev s_asked_on : Stmt := top 40
theorem sc_asked_on : FnScope ["house", "prices", "budget", "held", "line", "lot", "mode", "spent", "talk", "waiting", "x", "more"] ["house", "prices", "budget", "held", "line"] (defScope s_asked_on) := ⟨rfl, rfl, rfl, by decide +kernel, rfl, by decide +kernel, by decide +kernel⟩
theorem c_asked_on (F : Std K mg "asked_on" s_asked_on) (B : BFree mg) (c_ask_line : C8.Cal P w K mg base 3 "ask_line" (toSp K sp_ask) []) (c_field : C8.Cal P w K mg base 2 "field" (toSp K sp_field) []) (c_is_below : C8.Cal P w K mg base 1 "is_below" (toSp K sp_less) []) (c_times : C8.Cal P w K mg base 2 "times" (toSp K sp_times) []) : C8.Cal P w K mg base 4 "asked_on" (toSp K sp_asked) [] := by
  refine F.cal sc_asked_on sp_asked_len (fun _ _ _ _ _ _ us hl => match us, hl with | [_, _, _, _, _], _ => rfl) (fun f cdv A outer s H E hr => ?_)
  have nd := sc_asked_on.nd
  refine ⟨_, _, (qss_cons (qs_asg (qe_var (i := 3) rfl (by first | exact .inl rfl | exact .inr (.inl rfl) | exact .inr (.inr rfl))) (qg_tup rfl (qgs_cons (qg_name (i := 5) nd rfl (by first | exact .inl rfl | exact .inr rfl)) (qgs_cons (qg_name (i := 6) nd rfl (by first | exact .inl rfl | exact .inr rfl)) (qgs_cons (qg_name (i := 7) nd rfl (by first | exact .inl rfl | exact .inr rfl)) (qgs_cons (qg_name (i := 8) nd rfl (by first | exact .inl rfl | exact .inr rfl)) (qgs_cons (qg_name (i := 9) nd rfl (by first | exact .inl rfl | exact .inr rfl)) qgs_nil)))))))
      (qss_cons (qs_set (i := 10) nd rfl (by first | exact .inl rfl | exact .inr rfl) (qe_callK K c_field hr (by decide) rfl (qa_cons (qe_var (i := 4) rfl (by first | exact .inl rfl | exact .inr (.inl rfl) | exact .inr (.inr rfl))) (qa_cons qe_int qa_nil))))
      (qss_cons (qs_if (qt_not (qt_chain op_le op_lt ar_le ar_lt qe_int (qe_var (i := 10) rfl (by first | exact .inl rfl | exact .inr (.inl rfl) | exact .inr (.inr rfl))) (qe_callBK K ac_len call_len rfl B.f_len PySem.boot_len (qa_cons (qe_ixK K (qe_ixK K (qe_var (i := 0) rfl (by first | exact .inl rfl | exact .inr (.inl rfl) | exact .inr (.inr rfl))) qe_int) (qe_var (i := 6) rfl (by first | exact .inl rfl | exact .inr (.inl rfl) | exact .inr (.inr rfl)))) qa_nil)))) (qss_one (qs_ret qe_non)) qss_nil)
      (qss_cons (qs_set (i := 11) nd rfl (by first | exact .inl rfl | exact .inr rfl) (qe_callK K c_times hr (by decide) rfl (qa_cons (qe_var (i := 7) rfl (by first | exact .inl rfl | exact .inr (.inl rfl) | exact .inr (.inr rfl))) (qa_cons (qe_ixK K (qe_ixK K (qe_var (i := 1) rfl (by first | exact .inl rfl | exact .inr (.inl rfl) | exact .inr (.inr rfl))) (qe_var (i := 6) rfl (by first | exact .inl rfl | exact .inr (.inl rfl) | exact .inr (.inr rfl)))) (qe_var (i := 10) rfl (by first | exact .inl rfl | exact .inr (.inl rfl) | exact .inr (.inr rfl)))) qa_nil))))
      (qss_cons (qs_if (QW.t (qw_or (qt_val (qe_callK K c_is_below hr (by decide) rfl (qa_cons (qe_var (i := 2) rfl (by first | exact .inl rfl | exact .inr (.inl rfl) | exact .inr (.inr rfl))) (qa_cons (qe_var (i := 11) rfl (by first | exact .inl rfl | exact .inr (.inl rfl) | exact .inr (.inr rfl))) qa_nil)))) (qw_or1 (qt_neK K hr.units (qe_var (i := 4) rfl (by first | exact .inl rfl | exact .inr (.inl rfl) | exact .inr (.inr rfl))) (qe_callK K c_ask_line hr (by decide) rfl (qa_cons (qe_var (i := 10) rfl (by first | exact .inl rfl | exact .inr (.inl rfl) | exact .inr (.inr rfl))) (qa_cons (qe_var (i := 11) rfl (by first | exact .inl rfl | exact .inr (.inl rfl) | exact .inr (.inr rfl))) qa_nil))) (nomark _))))) (qss_one (qs_ret qe_non)) qss_nil)
      (qss_one (qs_ret (qe_tup (qa_cons (qe_var (i := 5) rfl (by first | exact .inl rfl | exact .inr (.inl rfl) | exact .inr (.inr rfl))) (qa_cons (qe_var (i := 6) rfl (by first | exact .inl rfl | exact .inr (.inl rfl) | exact .inr (.inr rfl))) (qa_cons (qe_var (i := 11) rfl (by first | exact .inl rfl | exact .inr (.inl rfl) | exact .inr (.inr rfl))) (qa_cons (qe_var (i := 8) rfl (by first | exact .inl rfl | exact .inr (.inl rfl) | exact .inr (.inr rfl))) (qa_cons (qe_var (i := 10) rfl (by first | exact .inl rfl | exact .inr (.inl rfl) | exact .inr (.inr rfl))) qa_nil))))))))))))), fun vs M Q h => ?_⟩
  obtain ⟨D, r, k, l, rfl, ok, hr, hk, hl, kQ⟩ := h
  walk_at "s"
  obtain ⟨e1, e2, e3⟩ := Dk.mode ok hr.mode
  have hql := Dk.qlen ok hr.mode
  refine ⟨rfl, l, 1, rfl, hl, ?_⟩
  unfold askOn at kQ
  have kN : ¬ (0 ≤ fieldN l 1 ∧ fieldN l 1 < (qsOf D r.mode).length) → ∃ M'', Le M'' M ∧ Q .non M'' := fun h => ⟨M, Le.refl, by rw [if_neg h] at kQ; exact kQ⟩
  refine ⟨fun h1 => i4 (ixm e1 (len_t ?_)), fun h1 => ⟨fun h2 => (by cases h2), fun _ => kN fun h => absurd (of_decide_eq_false h1) (by omega)⟩⟩
  rw [List.length_map]
  refine ⟨fun h2 => ?_, fun h2 => kN fun h => absurd (of_decide_eq_false h2) (by omega)⟩
  have h1' := of_decide_eq_true h1
  have h2' := of_decide_eq_true h2
  rw [if_pos ⟨h1', h2'⟩] at kQ
  obtain ⟨c, c1, c2, c3⟩ := Dk.cost ok hr.mode (x := (fieldN l 1).toNat) (by omega)
  rw [c2] at kQ
  refine ixm e2 (ixmi h1' c1 ?_)
  obtain ⟨pb, pp⟩ := pay_ok ok hr.bt hr.pos c3
  refine ⟨r.n, r.d, c.1, c.2, rfl, hr.bt.frb (by omega) (by omega), c3.frb, ?_⟩
  have pf := pb.frb (by omega) (by omega)
  refine ⟨D.bn, D.bd, (pay c r.n r.d).1, (pay c r.n r.d).2, rfl, ok.b.frb, pf, fun h3 => ⟨M, Le.refl, ?_⟩, fun h3 => ?_⟩
  · rw [if_pos (of_decide_eq_true h3)] at kQ
    exact kQ
  · rw [if_neg (of_decide_eq_false h3)] at kQ
    refine ⟨(fieldN l 1).toNat, (pay c r.n r.d).1.toNat, (pay c r.n r.d).2.toNat, ?_, lt14 (by omega), toNat_lt pb.1 (by omega), toNat_lt pb.2.2 (by omega), ne_T ⟨fun h4 => ⟨M, Le.refl, ?_⟩, fun h4 => ⟨M, Le.refl, ?_⟩⟩⟩
    · rw [Int.toNat_of_nonneg h1', Int.toNat_of_nonneg (Int.le_of_lt pp), Int.toNat_of_nonneg (Int.le_of_lt pb.2.1)]
      rfl
    · rw [if_neg (ndec h4)] at kQ
      exact kQ
    · rw [if_pos (ndec' h4)] at kQ
      rw [I_of h1']
      exact kQ
def sp_said : PSp := fun ps M Q => ∃ (D : Dk) (r : Rd) (k : Nat) (l : List Nat), ps = [D.h.p, r.p, T l] ∧ D.Ok ∧ r.Ok D k ∧ k ≤ 90 ∧ l.length + 2 < 2 ^ 20 ∧ Q (oR (sayOn D r l)) M
theorem sp_said_len : ∀ vs M Q, sp_said vs M Q → vs.length = 3 := fun vs M Q ⟨a, b, c, d, e', _⟩ => by rw [e']; rfl
abbrev s_said_on : Stmt := top 41
theorem sc_said_on : FnScope ["house", "held", "line", "lot", "mode", "spent", "talk", "waiting", "answer", "behind", "fresh", "hidden"] ["house", "held", "line"] (defScope s_said_on) := ⟨rfl, rfl, rfl, by decide +kernel, rfl, by decide +kernel, by decide +kernel⟩
theorem c_said_on (F : Std K mg "said_on" s_said_on) (B : BFree mg) (c_field : C8.Cal P w K mg base 2 "field" (toSp K sp_field) []) (c_is_step_of : C8.Cal P w K mg base 2 "is_step_of" (toSp K sp_step) []) (c_say_line : C8.Cal P w K mg base 3 "say_line" (toSp K sp_say) []) : C8.Cal P w K mg base 4 "said_on" (toSp K sp_said) [] := by
  refine F.cal sc_said_on sp_said_len (fun _ _ _ _ _ _ us hl => match us, hl with | [_, _, _], _ => rfl) (fun f cdv A outer s H E hr => ?_)
  have nd := sc_said_on.nd
  refine ⟨_, _, (qss_cons (qs_asg (qe_var (i := 1) rfl (by first | exact .inl rfl | exact .inr (.inl rfl) | exact .inr (.inr rfl))) (qg_tup rfl (qgs_cons (qg_name (i := 3) nd rfl (by first | exact .inl rfl | exact .inr rfl)) (qgs_cons (qg_name (i := 4) nd rfl (by first | exact .inl rfl | exact .inr rfl)) (qgs_cons (qg_name (i := 5) nd rfl (by first | exact .inl rfl | exact .inr rfl)) (qgs_cons (qg_name (i := 6) nd rfl (by first | exact .inl rfl | exact .inr rfl)) (qgs_cons (qg_name (i := 7) nd rfl (by first | exact .inl rfl | exact .inr rfl)) qgs_nil)))))))
      (qss_cons (qs_set (i := 8) nd rfl (by first | exact .inl rfl | exact .inr rfl) (qe_callK K c_field hr (by decide) rfl (qa_cons (qe_var (i := 2) rfl (by first | exact .inl rfl | exact .inr (.inl rfl) | exact .inr (.inr rfl))) (qa_cons qe_int qa_nil))))
      (qss_cons (qs_if (QW.t (qw_or (qt_isN (qe_var (i := 7) rfl (by first | exact .inl rfl | exact .inr (.inl rfl) | exact .inr (.inr rfl))) qe_non) (qw_or1 (qt_not (qt_val (qe_callK K c_is_step_of hr (by decide) rfl (qa_cons (qe_var (i := 0) rfl (by first | exact .inl rfl | exact .inr (.inl rfl) | exact .inr (.inr rfl))) (qa_cons (qe_var (i := 4) rfl (by first | exact .inl rfl | exact .inr (.inl rfl) | exact .inr (.inr rfl))) (qa_cons (qe_tup (qa_cons (qe_var (i := 7) rfl (by first | exact .inl rfl | exact .inr (.inl rfl) | exact .inr (.inr rfl))) (qa_cons (qe_var (i := 8) rfl (by first | exact .inl rfl | exact .inr (.inl rfl) | exact .inr (.inr rfl))) qa_nil))) qa_nil))))))))) (qss_one (qs_ret qe_non)) qss_nil)
      (qss_cons (qs_asg (qe_ixK K (qe_ixK K (qe_ixK K (qe_ixK K (qe_ixK K (qe_var (i := 0) rfl (by first | exact .inl rfl | exact .inr (.inl rfl) | exact .inr (.inr rfl))) qe_int) (qe_var (i := 4) rfl (by first | exact .inl rfl | exact .inr (.inl rfl) | exact .inr (.inr rfl)))) (qe_var (i := 7) rfl (by first | exact .inl rfl | exact .inr (.inl rfl) | exact .inr (.inr rfl)))) qe_int) (qe_var (i := 8) rfl (by first | exact .inl rfl | exact .inr (.inl rfl) | exact .inr (.inr rfl)))) (qg_tup rfl (qgs_cons (qg_name (i := 9) nd rfl (by first | exact .inl rfl | exact .inr rfl)) (qgs_cons (qg_name (i := 10) nd rfl (by first | exact .inl rfl | exact .inr rfl)) qgs_nil))))
      (qss_cons (qs_set (i := 11) nd rfl (by first | exact .inl rfl | exact .inr rfl) (qe_callK K c_field hr (by decide) rfl (qa_cons (qe_var (i := 2) rfl (by first | exact .inl rfl | exact .inr (.inl rfl) | exact .inr (.inr rfl))) (qa_cons qe_int qa_nil))))
      (qss_cons (qs_if (QW.t (qw_or (qt_not (qt_chain op_le op_lt ar_le ar_lt qe_int (qe_var (i := 11) rfl (by first | exact .inl rfl | exact .inr (.inl rfl) | exact .inr (.inr rfl))) (qe_callBK K ac_len call_len rfl B.f_len PySem.boot_len (qa_cons (qe_ixK K (qe_var (i := 0) rfl (by first | exact .inl rfl | exact .inr (.inl rfl) | exact .inr (.inr rfl))) qe_int) qa_nil)))) (qw_or1 (QW.t (qw_and (qt_eqK K hr.units (qe_var (i := 10) rfl (by first | exact .inl rfl | exact .inr (.inl rfl) | exact .inr (.inr rfl))) qe_int (nomark _)) (qw_and1 (qt_neK K hr.units (qe_var (i := 11) rfl (by first | exact .inl rfl | exact .inr (.inl rfl) | exact .inr (.inr rfl))) (qe_var (i := 3) rfl (by first | exact .inl rfl | exact .inr (.inl rfl) | exact .inr (.inr rfl))) (nomark _)))))))) (qss_one (qs_ret qe_non)) qss_nil)
      (qss_cons (qs_if (qt_neK K hr.units (qe_var (i := 2) rfl (by first | exact .inl rfl | exact .inr (.inl rfl) | exact .inr (.inr rfl))) (qe_callK K c_say_line hr (by decide) rfl (qa_cons (qe_var (i := 8) rfl (by first | exact .inl rfl | exact .inr (.inl rfl) | exact .inr (.inr rfl))) (qa_cons (qe_var (i := 9) rfl (by first | exact .inl rfl | exact .inr (.inl rfl) | exact .inr (.inr rfl))) (qa_cons (qe_var (i := 11) rfl (by first | exact .inl rfl | exact .inr (.inl rfl) | exact .inr (.inr rfl))) qa_nil)))) (nomark _)) (qss_one (qs_ret qe_non)) qss_nil)
      (qss_one (qs_ret (qe_tup (qa_cons (qe_var (i := 11) rfl (by first | exact .inl rfl | exact .inr (.inl rfl) | exact .inr (.inr rfl))) (qa_cons (qe_var (i := 9) rfl (by first | exact .inl rfl | exact .inr (.inl rfl) | exact .inr (.inr rfl))) (qa_cons (qe_var (i := 5) rfl (by first | exact .inl rfl | exact .inr (.inl rfl) | exact .inr (.inr rfl))) (qa_cons (qe_plusK K (qe_var (i := 6) rfl (by first | exact .inl rfl | exact .inr (.inl rfl) | exact .inr (.inr rfl))) (qe_tup (qa_cons (qe_tup (qa_cons (qe_var (i := 7) rfl (by first | exact .inl rfl | exact .inr (.inl rfl) | exact .inr (.inr rfl))) (qa_cons (qe_var (i := 8) rfl (by first | exact .inl rfl | exact .inr (.inl rfl) | exact .inr (.inr rfl))) qa_nil))) qa_nil))) (qa_cons qe_non qa_nil))))))))))))))), fun vs M Q h => ?_⟩
  obtain ⟨D, r, k, l, rfl, ok, hr, hk, hl, kQ⟩ := h
  walk_at "s"
  obtain ⟨e1, e2, e3⟩ := Dk.mode ok hr.mode
  refine ⟨rfl, l, 1, rfl, hl, ?_⟩
  unfold sayOn at kQ
  cases hw : r.wait with
  | none =>
    rw [hw] at kQ
    exact ⟨fun _ => ⟨M, Le.refl, kQ⟩, fun h => (by cases h)⟩
  | some w =>
  rw [hw] at kQ
  dsimp only at kQ
  refine ⟨fun h => (by cases h), fun _ => ?_⟩
  have hw' := hr.wait w hw
  obtain ⟨q, q1, q2, q3⟩ := Dk.quest ok hr.mode hw'
  refine ⟨D, r.mode, w, fieldN l 1, rfl, ok, hr.mode, hw', fun h1 => ?_, fun h1 => ?_⟩
  · have ha := of_decide_eq_true h1
    rw [if_pos ha] at kQ
    rw [q2] at ha kQ
    have hlt : (fieldN l 1).toNat < q.goes.length := by omega
    obtain ⟨g, eg, hg⟩ := mem_get hlt
    rw [List.getD_eq_getElem?_getD, eg] at kQ
    dsimp only [Option.getD_some] at kQ
    have hgo := q3.2.1 g hg
    obtain ⟨⟨kk, hkk⟩, _⟩ := ok.h
    have hll := hkk.ll
    have hml := hkk.ml
    refine i4 (ixm e1 (ixm q1 (i2 (ixmi ha.1 eg ⟨rfl, l, 3, rfl, hl, ?_⟩))))
    dsimp only
    have kN : ¬ ((0 ≤ fieldN l 3 ∧ fieldN l 3 < D.h.lots.length) ∧ ¬ (g.2 = 0 ∧ fieldN l 3 ≠ r.lot)) → ∃ M'', Le M'' M ∧ Q .non M'' := fun h => ⟨M, Le.refl, by rw [if_neg h] at kQ; exact kQ⟩
    refine ⟨fun h2 => i3 (len_t ?_), fun h2 => ⟨fun h => (by cases h), fun _ => kN fun h => absurd (of_decide_eq_false h2) (by omega)⟩⟩
    rw [List.length_map]
    refine ⟨fun h3 => ?_, fun h3 => kN fun h => absurd (of_decide_eq_false h3) (by omega)⟩
    have h2' := of_decide_eq_true h2
    have h3' := of_decide_eq_true h3
    have rest : ¬ (g.2 = 0 ∧ fieldN l 3 ≠ r.lot) → sp_say [.int (fieldN l 1), I g.1, .int (fieldN l 3)] M fun y M2 => pNeX (T l) y M2 fun p_5 M1 => match p_5 with
        | .bl b => (b = true → ∃ M'', Le M'' M1 ∧ Q .non M'') ∧ (b = false → pCat (Gs r.talk) (.tup [.tup [I w, .int (fieldN l 1)]]) M1 fun x M1 => ∃ M'', Le M'' M1 ∧ Q (.tup [.int (fieldN l 3), I g.1, fr r.n r.d, x, .non]) M'')
        | _ => False := fun h4 => by
      rw [if_pos ⟨⟨h2', h3'⟩, h4⟩] at kQ
      refine ⟨(fieldN l 1).toNat, g.1, (fieldN l 3).toNat, by rw [Int.toNat_of_nonneg ha.1, Int.toNat_of_nonneg h2']; rfl, lt14 (by have := q3.1; omega), lt14 (by have := hgo.1; omega), lt14 (by omega), ne_T ⟨fun h5 => ⟨M, Le.refl, ?_⟩, fun h5 => cat_t (szl _ ?_) ⟨M, Le.refl, ?_⟩⟩⟩
      · rw [if_neg (ndec h5)] at kQ
        exact kQ
      · rw [List.length_map]
        have := hr.tk
        show _ + 1 < _
        omega
      · rw [if_pos (ndec' h5)] at kQ
        rw [I_of h2', I_of ha.1]
        have e : r.talk.map (fun g => CR.P.tup [I g.1, I g.2]) ++ [.tup [I w, I (fieldN l 1).toNat]] = (r.talk ++ [(w, (fieldN l 1).toNat)]).map (fun g => CR.P.tup [I g.1, I g.2]) := by rw [List.map_append]; rfl
        rw [e]
        exact kQ
    refine ⟨fun h4 => ⟨fun h5 => kN fun h => h.2 ⟨?_, ?_⟩, fun h5 => rest ?_⟩, fun h4 => rest ?_⟩
    · have := of_decide_eq_true h4
      omega
    · exact ndec h5
    · exact fun h => h.2 (ndec' h5)
    · have := of_decide_eq_false h4
      exact fun h => this (by omega)
  · rw [if_neg (of_decide_eq_false h1)] at kQ
    exact ⟨M, Le.refl, kQ⟩
def sp_readon : PSp := fun ps M Q => ∃ (D : Dk) (r : Rd) (k : Nat) (l : List Nat), ps = [D.h.p, .tup (D.rates.map Prs), fr D.bn D.bd, r.p, T l] ∧ D.Ok ∧ r.Ok D k ∧ k ≤ 90 ∧ l.length + 2 < 2 ^ 20 ∧ Q (oR (readOn D r l)) M
theorem sp_readon_len : ∀ vs M Q, sp_readon vs M Q → vs.length = 5 := fun vs M Q ⟨a, b, c, d, e', _⟩ => by rw [e']; rfl
theorem cutS_to (l : List Nat) (n : Nat) : cutS (S l) none (some (n : Int)) = S (l.take n) := by
  have e : (S l).cps.toList = l := by simp [S]
  unfold cutS
  rw [HT.sIx_none, HT.sIx_nat, S_len, e]
  simp only [List.drop_zero, Nat.sub_zero]
  refine congrArg S ?_
  rw [Nat.min_def]
  split
  · rfl
  · rw [List.take_of_length_le (Nat.le_refl _), List.take_of_length_le (by omega)]
abbrev s_read_on : Stmt := top 42
theorem sc_read_on : FnScope ["house", "prices", "budget", "held", "line"] ["house", "prices", "budget", "held", "line"] (defScope s_read_on) := ⟨rfl, rfl, rfl, by decide +kernel, rfl, by decide +kernel, by decide +kernel⟩
theorem c_read_on (F : Std K mg "read_on" s_read_on) (B : BFree mg) (c_asked_on : C8.Cal P w K mg base 4 "asked_on" (toSp K sp_asked) []) (c_said_on : C8.Cal P w K mg base 4 "said_on" (toSp K sp_said) []) : C8.Cal P w K mg base 5 "read_on" (toSp K sp_readon) [] := by
  refine F.cal sc_read_on sp_readon_len (fun _ _ _ _ _ _ us hl => match us, hl with | [_, _, _, _, _], _ => rfl) (fun f cdv A outer s H E hr => ?_)
  have nd := sc_read_on.nd
  refine ⟨_, _, (qss_cons (qs_if (qt_eqK K hr.units (qe_sliceK K (qe_var (i := 4) rfl (by first | exact .inl rfl | exact .inr (.inl rfl) | exact .inr (.inr rfl))) qo_none (qo_some qe_int)) qe_str (nomark _)) (qss_one (qs_ret (qe_callK K c_asked_on hr (by decide) rfl (qa_cons (qe_var (i := 0) rfl (by first | exact .inl rfl | exact .inr (.inl rfl) | exact .inr (.inr rfl))) (qa_cons (qe_var (i := 1) rfl (by first | exact .inl rfl | exact .inr (.inl rfl) | exact .inr (.inr rfl))) (qa_cons (qe_var (i := 2) rfl (by first | exact .inl rfl | exact .inr (.inl rfl) | exact .inr (.inr rfl))) (qa_cons (qe_var (i := 3) rfl (by first | exact .inl rfl | exact .inr (.inl rfl) | exact .inr (.inr rfl))) (qa_cons (qe_var (i := 4) rfl (by first | exact .inl rfl | exact .inr (.inl rfl) | exact .inr (.inr rfl))) qa_nil)))))))) qss_nil)
      (qss_one (qs_ret (qe_callK K c_said_on hr (by decide) rfl (qa_cons (qe_var (i := 0) rfl (by first | exact .inl rfl | exact .inr (.inl rfl) | exact .inr (.inr rfl))) (qa_cons (qe_var (i := 3) rfl (by first | exact .inl rfl | exact .inr (.inl rfl) | exact .inr (.inr rfl))) (qa_cons (qe_var (i := 4) rfl (by first | exact .inl rfl | exact .inr (.inl rfl) | exact .inr (.inr rfl))) qa_nil))))))), fun vs M Q h => ?_⟩
  obtain ⟨D, r, k, l, rfl, ok, hr, hk, hl, kQ⟩ := h
  walk_at "s"
  refine sl_s (szS (by omega)) ?_
  rw [show cutS (S l) none (some 4) = S (l.take 4) from cutS_to l 4]
  unfold readOn at kQ
  refine eq_T (b := askC) ⟨fun h1 => ?_, fun h1 => ?_⟩
  · rw [if_pos (of_decide_eq_true h1)] at kQ
    exact ⟨D, r, k, l, rfl, ok, hr, hk, hl, M, Le.refl, kQ⟩
  · rw [if_neg (of_decide_eq_false h1)] at kQ
    exact ⟨D, r, k, l, rfl, ok, hr, hk, hl, M, Le.refl, kQ⟩
/-- a whole reading -/
def oJ : Option (Rd × List Nat) → CR.P
  | none => .non
  | some (r, j) => .tup [I r.lot, I r.mode, fr r.n r.d, Gs r.talk, I j.length]
def sp_readj : PSp := fun ps M Q => ∃ (D : Dk) (l : List Nat), ps = [D.h.p, .tup (D.rates.map Prs), fr D.bn D.bd, T l] ∧ D.Ok ∧ l.length + 4 < 2 ^ 20 ∧ (lines l).length ≤ 90 ∧ Q (oJ (readJ D l)) M
theorem sp_readj_len : ∀ vs M Q, sp_readj vs M Q → vs.length = 4 := fun vs M Q ⟨a, b, e', _⟩ => by rw [e']; rfl
theorem whole_len {l p : List Nat} (h : p ∈ wholeL l) : p.length ≤ l.length + 1 := by
  obtain ⟨q, hq, rfl⟩ := List.mem_map.mp h
  have := spl_len (List.dropLast_subset _ hq)
  rw [List.length_append]
  exact Nat.succ_le_succ this
theorem whole_count (l : List Nat) : (wholeL l).length = (lines l).length - 1 := by
  unfold wholeL
  rw [List.length_map, List.length_dropLast]
abbrev s_read_journal : Stmt := top 43
theorem sc_read_journal : FnScope ["house", "prices", "budget", "journal", "lines", "held", "length", "line", "more"] ["house", "prices", "budget", "journal"] (defScope s_read_journal) := ⟨rfl, rfl, rfl, by decide +kernel, rfl, by decide +kernel, by decide +kernel⟩
theorem c_read_journal (F : Std K mg "read_journal" s_read_journal) (B : BFree mg) (c_begin : C8.Cal P w K mg base 4 "begin" (toSp K sp_begin) []) (c_read_on : C8.Cal P w K mg base 5 "read_on" (toSp K sp_readon) []) (c_whole_lines : C8.Cal P w K mg base 1 "whole_lines" (toSp K sp_whole) []) : C8.Cal P w K mg base 6 "read_journal" (toSp K sp_readj) [] := by
  refine F.cal sc_read_journal sp_readj_len (fun _ _ _ _ _ _ us hl => match us, hl with | [_, _, _, _], _ => rfl) (fun f cdv A outer s H E hr => ?_)
  have nd := sc_read_journal.nd
  refine ⟨_, _, (qss_cons (qs_set (i := 4) nd rfl (by first | exact .inl rfl | exact .inr rfl) (qe_callK K c_whole_lines hr (by decide) rfl (qa_cons (qe_var (i := 3) rfl (by first | exact .inl rfl | exact .inr (.inl rfl) | exact .inr (.inr rfl))) qa_nil)))
      (qss_cons (qs_if (qt_eqK K hr.units (qe_callBK K ac_len call_len rfl B.f_len PySem.boot_len (qa_cons (qe_var (i := 4) rfl (by first | exact .inl rfl | exact .inr (.inl rfl) | exact .inr (.inr rfl))) qa_nil)) qe_int (nomark _)) (qss_one (qs_ret qe_non)) qss_nil)
      (qss_cons (qs_set (i := 5) nd rfl (by first | exact .inl rfl | exact .inr rfl) (qe_callK K c_begin hr (by decide) rfl (qa_cons (qe_var (i := 0) rfl (by first | exact .inl rfl | exact .inr (.inl rfl) | exact .inr (.inr rfl))) (qa_cons (qe_ixK K (qe_var (i := 4) rfl (by first | exact .inl rfl | exact .inr (.inl rfl) | exact .inr (.inr rfl))) qe_int) qa_nil))))
      (qss_cons (qs_if (qt_isN (qe_var (i := 5) rfl (by first | exact .inl rfl | exact .inr (.inl rfl) | exact .inr (.inr rfl))) qe_non) (qss_one (qs_ret qe_non)) qss_nil)
      (qss_cons (qs_set (i := 6) nd rfl (by first | exact .inl rfl | exact .inr rfl) (qe_callBK K ac_len call_len rfl B.f_len PySem.boot_len (qa_cons (qe_ixK K (qe_var (i := 4) rfl (by first | exact .inl rfl | exact .inr (.inl rfl) | exact .inr (.inr rfl))) qe_int) qa_nil)))
      (qss_cut (qs_for PassesOwn.never rfl (qi_seqK K (qe_sliceK K (qe_var (i := 4) rfl (by first | exact .inl rfl | exact .inr (.inl rfl) | exact .inr (.inr rfl))) (qo_some qe_int) qo_none)) (qg_name (i := 7) nd rfl (by first | exact .inl rfl | exact .inr rfl)) (qss_cons (qs_set (i := 8) nd rfl (by first | exact .inl rfl | exact .inr rfl) (qe_callK K c_read_on hr (by decide) rfl (qa_cons (qe_var (i := 0) rfl (by first | exact .inl rfl | exact .inr (.inl rfl) | exact .inr (.inr rfl))) (qa_cons (qe_var (i := 1) rfl (by first | exact .inl rfl | exact .inr (.inl rfl) | exact .inr (.inr rfl))) (qa_cons (qe_var (i := 2) rfl (by first | exact .inl rfl | exact .inr (.inl rfl) | exact .inr (.inr rfl))) (qa_cons (qe_var (i := 5) rfl (by first | exact .inl rfl | exact .inr (.inl rfl) | exact .inr (.inr rfl))) (qa_cons (qe_var (i := 7) rfl (by first | exact .inl rfl | exact .inr (.inl rfl) | exact .inr (.inr rfl))) qa_nil)))))))
      (qss_cons (qs_if (qt_isN (qe_var (i := 8) rfl (by first | exact .inl rfl | exact .inr (.inl rfl) | exact .inr (.inr rfl))) qe_non) (qss_one qs_break) qss_nil)
      (qss_cons (qs_set (i := 5) nd rfl (by first | exact .inl rfl | exact .inr rfl) (qe_var (i := 8) rfl (by first | exact .inl rfl | exact .inr (.inl rfl) | exact .inr (.inr rfl))))
      (qss_one (qs_set (i := 6) nd rfl (by first | exact .inl rfl | exact .inr rfl) (qe_plusK K (qe_var (i := 6) rfl (by first | exact .inl rfl | exact .inr (.inl rfl) | exact .inr (.inr rfl))) (qe_callBK K ac_len call_len rfl B.f_len PySem.boot_len (qa_cons (qe_var (i := 7) rfl (by first | exact .inl rfl | exact .inr (.inl rfl) | exact .inr (.inr rfl))) qa_nil)))))))))
      (qss_one (qs_ret (qe_tup (qa_cons (qe_ixK K (qe_var (i := 5) rfl (by first | exact .inl rfl | exact .inr (.inl rfl) | exact .inr (.inr rfl))) qe_int) (qa_cons (qe_ixK K (qe_var (i := 5) rfl (by first | exact .inl rfl | exact .inr (.inl rfl) | exact .inr (.inr rfl))) qe_int) (qa_cons (qe_ixK K (qe_var (i := 5) rfl (by first | exact .inl rfl | exact .inr (.inl rfl) | exact .inr (.inr rfl))) qe_int) (qa_cons (qe_ixK K (qe_var (i := 5) rfl (by first | exact .inl rfl | exact .inr (.inl rfl) | exact .inr (.inr rfl))) qe_int) (qa_cons (qe_var (i := 6) rfl (by first | exact .inl rfl | exact .inr (.inl rfl) | exact .inr (.inr rfl))) qa_nil)))))))))))))), fun vs M Q h => ?_⟩
  obtain ⟨D, l, rfl, ok, hl, hc, kQ⟩ := h
  walk_at "s"
  refine ⟨l, rfl, by omega, fun a M1 na l1 m1 => len_l m1 ?_⟩
  have wc := whole_count l
  unfold readJ at kQ
  rw [List.length_map]
  cases hw : wholeL l with
  | nil =>
    rw [hw] at kQ
    exact ⟨fun _ => ⟨M, l1, kQ⟩, fun h => absurd (of_decide_eq_false h) (by simp)⟩
  | cons l0 ls =>
  rw [hw] at kQ m1
  dsimp only at kQ
  have hl0 : l0.length ≤ l.length + 1 := whole_len (by rw [hw]; exact List.mem_cons_self ..)
  have hls : ∀ x ∈ ls, x.length ≤ l.length + 1 := fun x hx => whole_len (by rw [hw]; exact List.mem_cons_of_mem _ hx)
  rw [hw, List.length_cons] at wc
  refine ⟨fun h => absurd (of_decide_eq_true h) (by rw [List.length_cons]; omega), fun _ => ?_⟩
  refine ix_l m1 (by decide) rfl ⟨D, l0, rfl, ok, by omega, ?_⟩
  cases hb : beginN D l0 with
  | none =>
    rw [hb] at kQ
    exact ⟨fun _ => ⟨M, l1, kQ⟩, fun h => (by cases h)⟩
  | some n =>
  rw [hb] at kQ
  dsimp only at kQ
  refine ⟨fun h => (by cases h), fun _ => ?_⟩
  refine ix_l m1 (by decide) rfl (len_T (by omega) ?_)
  have hn : n < D.h.lots.length := by
    unfold beginN at hb
    split at hb
    · cases hb
      omega
    · cases hb
  refine ⟨fun ρ M' => Le M M' ∧ ∃ u v, ρ = [some D.h.p, some (.tup (D.rates.map Prs)), some (fr D.bn D.bd), some (T l), some (.ref a), some (readAll D (rd0 n) ls).1.p, some (I (l0.length + (readAll D (rd0 n) ls).2.flatten.length)), u, v], ?_, ?_⟩
  · refine sl_l m1 (fun b M2 nb l2 m2 => ?_)
    rw [List.map_cons, cut1] at m2
    walk_at "d"
    rw [m2]
    refine for_lst (fun k ρ M' => M' = M2 ∧ ∃ (r : Rd) (u v : Option CR.P), r.Ok D k ∧ (readAll D (rd0 n) ls).1 = (readAll D r (ls.drop k)).1 ∧ (readAll D (rd0 n) ls).2 = ls.take k ++ (readAll D r (ls.drop k)).2 ∧
      ρ = [some D.h.p, some (.tup (D.rates.map Prs)), some (fr D.bn D.bd), some (T l), some (.ref a), some r.p, some (I (l0.length + (ls.take k).flatten.length)), u, v]) ⟨rfl, rd0 n, none, none, rd0_ok ok hn, rfl, rfl, rfl⟩ (fun k ρ M' ⟨e, _⟩ => by rw [e]; exact m2) (fun k x ρ M' ex hx ⟨eM, r, u, v, hr, h1, h2, eρ⟩ => ?_) (fun ρ M' ⟨eM, r, u, v, hr, h1, h2, eρ⟩ => ?_)
    · subst eM eρ
      rw [List.getElem?_map] at ex
      cases el : ls[k]? with
      | none => rw [el] at ex; cases ex
      | some ln =>
      rw [el] at ex
      cases ex
      have hk := (List.getElem?_eq_some_iff.mp el).1
      have hln := hls ln (List.mem_of_getElem? el)
      have ed : ls.drop k = ln :: ls.drop (k + 1) := by
        rw [List.drop_eq_getElem_cons hk]
        congr 1
        exact Option.some.inj ((List.getElem?_eq_getElem hk).symm.trans el)
      rw [ed] at h1 h2
      walk_at "s"
      refine ⟨D, r, k, ln, rfl, ok, hr, by omega, by omega, ?_⟩
      cases hro : readOn D r ln with
      | none =>
        rw [readAll_none hro] at h1 h2
        refine ⟨fun _ => ⟨l1.trans l2, some (T ln), some .non, ?_⟩, fun h => (by cases h)⟩
        rw [h1, h2, List.append_nil]
        rfl
      | some r' =>
        rw [readAll_some hro] at h1 h2
        refine ⟨fun h => (by cases h), fun _ => len_T (by omega) (cat_i ?_)⟩
        refine ⟨rfl, r', some (T ln), some r'.p, readOn_ok ok hr hro, h1, ?_, ?_⟩
        · rw [h2, List.take_succ, el]
          simp
        · have : I (l0.length + (ls.take (k + 1)).flatten.length) = .int (((l0.length + (ls.take k).flatten.length : Nat) : Int) + (ln.length : Nat)) := by
            rw [List.take_succ, el]
            show CR.P.int _ = .int _
            congr 1
            simp only [Option.toList_some, List.flatten_append, List.length_append, List.flatten_cons, List.flatten_nil, List.append_nil]
            omega
          rw [this]
          rfl
    · subst eM eρ
      have e0 : (ls.map T).length = ls.length := List.length_map ..
      rw [e0, List.drop_length] at h1 h2
      rw [List.take_length] at h2
      refine ⟨l1.trans l2, u, v, ?_⟩
      rw [h1, h2, e0, List.take_length]
      show _ = [_, _, _, _, _, _, some (I (l0.length + (ls ++ []).flatten.length)), _, _]
      rw [List.append_nil]
      rfl
  · rintro ρ M' ⟨l2, u, v, rfl⟩
    walk_at "s"
    refine i0 (i1 (i2 (i3 ⟨M, l2, ?_⟩)))
    have : (oJ (some ((readAll D (rd0 n) ls).1, l0 ++ (readAll D (rd0 n) ls).2.flatten))) = .tup [I (readAll D (rd0 n) ls).1.lot, I (readAll D (rd0 n) ls).1.mode, fr (readAll D (rd0 n) ls).1.n (readAll D (rd0 n) ls).1.d, Gs (readAll D (rd0 n) ls).1.talk, I (l0.length + (readAll D (rd0 n) ls).2.flatten.length)] := by
      show CR.P.tup [_, _, _, _, _] = _
      rw [List.length_append]
    rw [this] at kQ
    exact kQ
end
end CR

set_option Elab.async false
set_option linter.all false
set_option maxRecDepth 100000
set_option maxHeartbeats 4000000
set_option exponentiation.threshold 300000
namespace CR
open PySem PySem.Spec L2
local macro_rules | `(tactic| walk_at "s") => `(tactic| dsimp only [fRet, fSeq, fCut, fAsg, fDrop, fIfS, fNext, fBreak, fCont, fVar, fC, fOp, fCall, fCons, fNil, fCB, fBMS, fBML, fTup, fLst, fTest, fNot, fAnd, fOr, fAndV, fOrV, fNotV, fIf, fNeg, fChain, fGName, fGTup, fGCons, fGNil, fAugI, fSl, fPart, fNoPart, fRevL, fLstRg, fRepl, fFld, fSFld, fMeth, fProp, fPropSet, fMake, fMakeV, fCMeth, fGSub, fAugSub, fISeq, fIStr, fIRng1, fIRng2, fFor, fWhile, fLc, fYes, fIsi, fOf, fSeqX, fIfX, fRaise, fSetMX, fTry, fFldX, fIsX, fCMK, fMD, nth, lawS, startP, setS, clrS, wipeS, fnEnds, pI0, pI])
local macro_rules | `(tactic| walk_at "d") => `(tactic| try dsimp only)
section
variable {P : Program} {w : World} {K : PySem.W.Frag} {mg : Str → Option Value} {base : Heap}
open SX
def deskL (D : Dk) (ns : List Nat) : List CR.P := [D.h.p, It ns, .tup (D.rates.map Prs), fr D.bn D.bd, I D.st]
theorem strI {i : Int} {M : Mp} {Q : KE} (h0 : 0 ≤ i) (h : i.toNat < 2 ^ 14000) (q : Q (T (TL.numL i.toNat)) M) : pStrB [.int i] M Q := by
  have e := Int.toNat_of_nonneg h0
  rw [← e]
  exact strB h q
theorem askW_eq (x n d : Nat) : [97, 115, 107, 32] ++ TL.numL x ++ [32] ++ TL.numL n ++ [47] ++ TL.numL d = askW x n d := by
  unfold askW
  simp
theorem sayW_eq (x n d : Nat) : [115, 97, 121, 32] ++ TL.numL x ++ [32] ++ TL.numL n ++ [32] ++ TL.numL d = sayW x n d := by
  unfold sayW
  simp
theorem lotW_eq (x : Nat) : [108, 111, 116, 32] ++ TL.numL x = lotW x := by
  unfold lotW
  simp
theorem askW_len (x n d : Nat) : (askW x n d).length = 6 + (TL.numL x).length + (TL.numL n).length + (TL.numL d).length := by
  rw [← askW_eq]
  simp only [List.length_append, List.length_cons, List.length_nil]
  omega
theorem sayW_len (x n d : Nat) : (sayW x n d).length = 6 + (TL.numL x).length + (TL.numL n).length + (TL.numL d).length := by
  rw [← sayW_eq]
  simp only [List.length_append, List.length_cons, List.length_nil]
  omega
theorem lotW_len (x : Nat) : (lotW x).length = 4 + (TL.numL x).length := by
  rw [← lotW_eq]
  simp only [List.length_append, List.length_cons, List.length_nil]
end
end CR

set_option Elab.async false
set_option linter.all false
set_option maxRecDepth 100000
set_option maxHeartbeats 4000000
set_option exponentiation.threshold 300000
namespace CR
open PySem PySem.Spec L2
local macro_rules | `(tactic| walk_at "s") => `(tactic| dsimp only [fRet, fSeq, fCut, fAsg, fDrop, fIfS, fNext, fBreak, fCont, fVar, fC, fOp, fCall, fCons, fNil, fCB, fBMS, fBML, fTup, fLst, fTest, fNot, fAnd, fOr, fAndV, fOrV, fNotV, fIf, fNeg, fChain, fGName, fGTup, fGCons, fGNil, fAugI, fSl, fPart, fNoPart, fRevL, fLstRg, fRepl, fFld, fSFld, fMeth, fProp, fPropSet, fMake, fMakeV, fCMeth, fGSub, fAugSub, fISeq, fIStr, fIRng1, fIRng2, fFor, fWhile, fLc, fYes, fIsi, fOf, fSeqX, fIfX, fRaise, fSetMX, fTry, fFldX, fIsX, fCMK, fMD, nth, lawS, startP, setS, clrS, wipeS, fnEnds, pI0, pI])
local macro_rules | `(tactic| walk_at "d") => `(tactic| try dsimp only)
section
variable {P : Program} {w : World} {K : PySem.W.Frag} {mg : Str → Option Value} {base : Heap}
open SX
theorem join_whole {s : Nat} : ∀ (ps : List (List Nat)) (h : ps ≠ []), TL.joinL [s] ps = (ps.dropLast.map fun p => p ++ [s]).flatten ++ ps.getLast h
  | [], h => absurd rfl h
  | [p], _ => by simp [TL.joinL]
  | p :: q :: r, _ => by
    rw [join_cons (by simp), join_whole (q :: r) (by simp)]
    simp
/-- the whole lines, and what stands behind the last -/
theorem whole_flat (l : List Nat) : ∃ e, (wholeL l).flatten ++ e = l := by
  have h := spl_ne 10 l []
  refine ⟨(lines l).getLast h, ?_⟩
  have := join_whole (s := 10) (lines l) h
  rw [join_spl] at this
  exact this.symm
theorem flat_take {ls : List (List Nat)} (k : Nat) : (ls.take k).flatten.length ≤ ls.flatten.length := by
  have : ls.flatten = (ls.take k).flatten ++ (ls.drop k).flatten := by rw [← List.flatten_append, List.take_append_drop]
  rw [this, List.length_append]
  omega
theorem lines_count (s : Nat) : ∀ (l acc : List Nat), (TL.spl [s] 0 acc l).length = l.count s + 1
  | [], acc => by rw [TL.spl_nil]; simp
  | c :: r, acc => by
    by_cases h : c = s
    · have h' : TL.pre [s] (c :: r) = true := by rw [pre_one]; simpa using h
      rw [TL.spl_hit h', List.length_cons, show [s].length - 1 = 0 from rfl, lines_count s r [], h, List.count_cons_self]
    · have h' : TL.pre [s] (c :: r) = false := by rw [pre_one]; simpa using h
      rw [TL.spl_miss h', lines_count s r _, List.count_cons_of_ne (fun e => h (by simpa using e))]
end
end CR

set_option Elab.async false
set_option linter.all false
set_option maxRecDepth 100000
set_option maxHeartbeats 4000000
set_option exponentiation.threshold 300000
namespace CR
open PySem PySem.Spec L2
local macro_rules | `(tactic| walk_at "s") => `(tactic| dsimp only [fRet, fSeq, fCut, fAsg, fDrop, fIfS, fNext, fBreak, fCont, fVar, fC, fOp, fCall, fCons, fNil, fCB, fBMS, fBML, fTup, fLst, fTest, fNot, fAnd, fOr, fAndV, fOrV, fNotV, fIf, fNeg, fChain, fGName, fGTup, fGCons, fGNil, fAugI, fSl, fPart, fNoPart, fRevL, fLstRg, fRepl, fFld, fSFld, fMeth, fProp, fPropSet, fMake, fMakeV, fCMeth, fGSub, fAugSub, fISeq, fIStr, fIRng1, fIRng2, fFor, fWhile, fLc, fYes, fIsi, fOf, fSeqX, fIfX, fRaise, fSetMX, fTry, fFldX, fIsX, fCMK, fMD, nth, lawS, startP, setS, clrS, wipeS, fnEnds, pI0, pI])
local macro_rules | `(tactic| walk_at "d") => `(tactic| try dsimp only)
section
variable {P : Program} {w : World} {K : PySem.W.Frag} {mg : Str → Option Value} {base : Heap}
open SX
/-- data of at most so much depth -/
def OkD (k : Nat) (p : CR.P) : Prop := noRef p = true ∧ (toD p).canLay0 = true ∧ (toD p).depth ≤ k
theorem okd_int {i : Int} : OkD 0 (.int i) := ⟨by unfold noRef; rfl, by unfold toD PyData.canLay0; rfl, by unfold toD PyData.depth; exact Nat.le_refl _⟩
theorem okd_str {x : Str} (h : PyData.strOk x = true) : OkD 0 (.str x) := ⟨by unfold noRef; rfl, by unfold toD PyData.canLay0; exact h, by unfold toD PyData.depth; exact Nat.le_refl _⟩
theorem okd_all : ∀ {k : Nat} {ps : List CR.P}, (∀ p ∈ ps, OkD k p) → noRefs ps = true ∧ PyData.canLayAll0 (toDs ps) = true ∧ PyData.depthAll (toDs ps) ≤ k
  | k, [], _ => ⟨by unfold noRefs; rfl, by unfold toDs PyData.canLayAll0; rfl, by unfold toDs PyData.depthAll; exact Nat.zero_le _⟩
  | k, p :: r, h => by
    obtain ⟨a1, a2, a3⟩ := h p (List.mem_cons_self ..)
    obtain ⟨b1, b2, b3⟩ := okd_all (k := k) (ps := r) fun q hq => h q (List.mem_cons_of_mem _ hq)
    refine ⟨?_, ?_, ?_⟩
    · unfold noRefs
      rw [a1, b1]
      rfl
    · unfold toDs PyData.canLayAll0
      rw [a2, b2]
      rfl
    · unfold toDs PyData.depthAll
      exact Nat.max_le.mpr ⟨a3, b3⟩
theorem okd_tup {k : Nat} {ps : List CR.P} (h : ∀ p ∈ ps, OkD k p) : OkD (k + 1) (.tup ps) := by
  obtain ⟨a, b, c⟩ := okd_all h
  refine ⟨by unfold noRef; exact a, by unfold toD PyData.canLay0; exact b, by unfold toD PyData.depth; exact Nat.succ_le_succ c⟩
theorem OkD.up {k j : Nat} {p : CR.P} (h : OkD k p) (l : k ≤ j) : OkD j p := ⟨h.1, h.2.1, Nat.le_trans h.2.2 l⟩
theorem OkD.ok {k : Nat} {p : CR.P} (h : OkD k p) (l : k ≤ 64) : okD p = true := by
  unfold okD SeqAt.shaped
  rw [h.1, h.2.1, Bool.true_and, Bool.true_and]
  exact decide_eq_true (Nat.le_trans h.2.2 l)
/-- a tuple is equal to itself -/
theorem eq_self {ps : List CR.P} {M : Mp} {Q : KE} {k : Nat} (h : OkD k (.tup ps)) (l : k ≤ 64) (q : Q (.bl true) M) : pEqX (.tup ps) (.tup ps) M Q := by
  refine ⟨h.ok l, h.ok l, ?_⟩
  rw [SeqAt.eqv_refl (toD (.tup ps)) h.2.1]
  exact q
theorem okd_I (n : Nat) : OkD 0 (I n) := okd_int
theorem okd_fr (n d : Int) : OkD 1 (fr n d) := okd_tup fun p hp => by
  simp only [List.mem_cons, List.not_mem_nil, or_false] at hp
  rcases hp with rfl | rfl <;> exact okd_int
theorem okd_Gs (gs : List (Nat × Nat)) : OkD 2 (Gs gs) := okd_tup fun p hp => by
  obtain ⟨g, _, rfl⟩ := List.mem_map.mp hp
  exact okd_tup fun q hq => by
    simp only [List.mem_cons, List.not_mem_nil, or_false] at hq
    rcases hq with rfl | rfl <;> exact okd_int
/-- what a guard shows -/
def lawP5 (r : Rd) (j : List Nat) : CR.P := .tup [I r.mode, I r.lot, Gs r.talk, fr r.n r.d, T j]
def sp_begun : PSp := fun ps M Q => ∃ (h : Hs) (n : Nat), ps = [h.p, .int n] ∧ h.lots.length < 10 ∧ n < h.lots.sum ∧ Q (lawP5 (rd0 (numOf h.lots n)) (lineL (lotW (numOf h.lots n)))) M
theorem sp_begun_len : ∀ vs M Q, sp_begun vs M Q → vs.length = 2 := fun vs M Q ⟨a, b, e', _⟩ => by rw [e']; rfl
abbrev s__law_begun : Stmt := top 147
theorem sc__law_begun : FnScope ["house", "n", "hidden"] ["house", "n"] (defScope s__law_begun) := ⟨rfl, rfl, rfl, by decide +kernel, rfl, by decide +kernel, by decide +kernel⟩
theorem c__law_begun (F : Std K mg "_law_begun" s__law_begun) (B : BFree mg) (hnd : base.NoDigits) (c__law_line : C8.Cal P w K mg base 1 "_law_line" (toSp K sp_line) []) (c__law_number : C8.Cal P w K mg base 1 "_law_number" (toSp K sp_number) []) : C8.Cal P w K mg base 2 "_law_begun" (toSp K sp_begun) [] := by
  refine F.cal sc__law_begun sp_begun_len (fun _ _ _ _ _ _ us hl => match us, hl with | [_, _], _ => rfl) (fun f cdv A outer s H E hr => ?_)
  have nd := sc__law_begun.nd
  refine ⟨_, _, (qss_cons (qs_set (i := 2) nd rfl (by first | exact .inl rfl | exact .inr rfl) (qe_callK K c__law_number hr (by decide) rfl (qa_cons (qe_ixK K (qe_var (i := 0) rfl (by first | exact .inl rfl | exact .inr (.inl rfl) | exact .inr (.inr rfl))) qe_int) (qa_cons (qe_var (i := 1) rfl (by first | exact .inl rfl | exact .inr (.inl rfl) | exact .inr (.inr rfl))) qa_nil))))
      (qss_one (qs_ret (qe_tup (qa_cons qe_int (qa_cons (qe_var (i := 2) rfl (by first | exact .inl rfl | exact .inr (.inl rfl) | exact .inr (.inr rfl))) (qa_cons (qe_tup qa_nil) (qa_cons (qe_tup (qa_cons qe_int (qa_cons qe_int qa_nil))) (qa_cons (qe_callK K c__law_line hr (by decide) rfl (qa_cons (qe_plusK K qe_str (qe_callTyK K ac_strB (cr_strB hnd hr.hd) rfl B.f_str (by decide +kernel) (qa_cons (qe_var (i := 2) rfl (by first | exact .inl rfl | exact .inr (.inl rfl) | exact .inr (.inr rfl))) qa_nil))) qa_nil)) qa_nil))))))))), fun vs M Q h => ?_⟩
  obtain ⟨h, n, rfl, hl, hn, kQ⟩ := h
  have hlt := numOf_lt _ _ hn
  have bl : numOf h.lots n < 2 ^ 14000 := lt14 (by omega)
  have l1 := nL_le bl
  walk_at "s"
  refine i3 ⟨h.lots, n, rfl, by omega, hn, strB bl (cat_TR (b := [108, 111, 116, 32]) rfl (by show 4 + _ ≤ _; omega) ?_)⟩
  rw [lotW_eq]
  exact ⟨_, rfl, by rw [lotW_len]; omega, M, Le.refl, kQ⟩
theorem pay_gcd {c : Int × Int} {n d : Int} (h : 0 < d * c.2) : Int.gcd (pay c n d).1 (pay c n d).2 = 1 := by
  have := gcd_pos (n := n * c.1) h
  exact Int.gcd_ediv_gcd_ediv_gcd (by omega)
section
variable {D : Dk} (ok : D.Ok)
include ok
theorem readOn_gcd {k : Nat} {r r' : Rd} {l : List Nat} (hr : r.Ok D k) (hg : Int.gcd r.n r.d = 1) (h : readOn D r l = some r') : Int.gcd r'.n r'.d = 1 := by
  unfold readOn at h
  split at h
  · unfold askOn at h
    split at h
    · rename_i hx
      have hx' : (fieldN l 1).toNat < (qsOf D r.mode).length := by omega
      obtain ⟨c, c1, c2, c3⟩ := Dk.cost ok hr.mode hx'
      rw [c2] at h
      dsimp only at h
      split at h
      · cases h
      · split at h
        · cases h
          exact pay_gcd (Int.mul_pos hr.bt.2.1 c3.2.1)
        · cases h
    · cases h
  · unfold sayOn at h
    split at h
    · cases h
    · split at h
      · dsimp only at h
        split at h
        · split at h
          · cases h
            exact hg
          · cases h
        · cases h
      · cases h
theorem readAll_ok : ∀ (ls : List (List Nat)) {k : Nat} {r : Rd}, r.Ok D k → Int.gcd r.n r.d = 1 → ∃ k', k' ≤ k + ls.length ∧ (readAll D r ls).1.Ok D k' ∧ Int.gcd (readAll D r ls).1.n (readAll D r ls).1.d = 1
  | [], k, r, h, g => ⟨k, by simp, h, g⟩
  | l :: ls, k, r, h, g => by
    cases e : readOn D r l with
    | none =>
      rw [readAll_none e]
      exact ⟨k, by omega, h, g⟩
    | some r' =>
      rw [readAll_some e]
      obtain ⟨k', h1, h2⟩ := readAll_ok ls (readOn_ok ok h e) (readOn_gcd ok h g e)
      exact ⟨k', by rw [List.length_cons]; omega, h2⟩
theorem readJ_ok {l : List Nat} {r : Rd} {j : List Nat} (h : readJ D l = some (r, j)) : ∃ k', k' ≤ (lines l).length ∧ r.Ok D k' ∧ Int.gcd r.n r.d = 1 := by
  have wc := whole_count l
  unfold readJ at h
  cases hw : wholeL l with
  | nil => rw [hw] at h; cases h
  | cons l0 ls =>
    rw [hw] at h wc
    dsimp only at h
    cases hb : beginN D l0 with
    | none => rw [hb] at h; cases h
    | some n =>
      rw [hb] at h
      dsimp only at h
      have hn : n < D.h.lots.length := by
        unfold beginN at hb
        split at hb
        · cases hb
          omega
        · cases hb
      obtain ⟨k', h1, h2, h3⟩ := readAll_ok ok ls (rd0_ok ok hn) (by show Int.gcd 1 1 = 1; decide)
      cases h
      rw [List.length_cons] at wc
      exact ⟨k', by omega, h2, h3⟩
end
end
end CR

set_option Elab.async false
set_option linter.all false
set_option maxRecDepth 100000
set_option maxHeartbeats 4000000
set_option exponentiation.threshold 300000
namespace CR
open PySem PySem.Spec L2
local macro_rules | `(tactic| walk_at "s") => `(tactic| dsimp only [fRet, fSeq, fCut, fAsg, fDrop, fIfS, fNext, fBreak, fCont, fVar, fC, fOp, fCall, fCons, fNil, fCB, fBMS, fBML, fTup, fLst, fTest, fNot, fAnd, fOr, fAndV, fOrV, fNotV, fIf, fNeg, fChain, fGName, fGTup, fGCons, fGNil, fAugI, fSl, fPart, fNoPart, fRevL, fLstRg, fRepl, fFld, fSFld, fMeth, fProp, fPropSet, fMake, fMakeV, fCMeth, fGSub, fAugSub, fISeq, fIStr, fIRng1, fIRng2, fFor, fWhile, fLc, fYes, fIsi, fOf, fSeqX, fIfX, fRaise, fSetMX, fTry, fFldX, fIsX, fCMK, fMD, nth, lawS, startP, setS, clrS, wipeS, fnEnds, pI0, pI])
local macro_rules | `(tactic| walk_at "d") => `(tactic| try dsimp only)
section
variable {P : Program} {w : World} {K : PySem.W.Frag} {mg : Str → Option Value} {base : Heap}
open SX
theorem readAll_pre (D : Dk) : ∀ (ls : List (List Nat)) (r : Rd), ∃ rest, (readAll D r ls).2 ++ rest = ls
  | [], r => ⟨[], rfl⟩
  | l :: ls, r => by
    cases e : readOn D r l with
    | none =>
      rw [readAll_none e]
      exact ⟨l :: ls, rfl⟩
    | some r' =>
      rw [readAll_some e]
      obtain ⟨rest, h⟩ := readAll_pre D ls r'
      exact ⟨rest, by show l :: (_ ++ rest) = _; rw [h]⟩
theorem readJ_pre {D : Dk} {l : List Nat} {r : Rd} {j : List Nat} (h : readJ D l = some (r, j)) : ∃ e, j ++ e = l := by
  obtain ⟨tail, hf⟩ := whole_flat l
  unfold readJ at h
  cases hw : wholeL l with
  | nil => rw [hw] at h; cases h
  | cons l0 ls =>
    rw [hw] at h hf
    dsimp only at h
    cases hb : beginN D l0 with
    | none => rw [hb] at h; cases h
    | some n =>
      rw [hb] at h
      dsimp only at h
      obtain ⟨rest, hr⟩ := readAll_pre D ls (rd0 n)
      cases h
      refine ⟨rest.flatten ++ tail, ?_⟩
      rw [← hf, List.flatten_cons]
      have : ls.flatten = (readAll D (rd0 n) ls).2.flatten ++ rest.flatten := by rw [← List.flatten_append, hr]
      rw [this]
      simp only [List.append_assoc]
theorem ne_self {ps : List CR.P} {M : Mp} {Q : KE} {k : Nat} (h : OkD k (.tup ps)) (l : k ≤ 64) (q : Q (.bl false) M) : pNeX (.tup ps) (.tup ps) M Q := by
  refine ⟨h.ok l, h.ok l, ?_⟩
  rw [SeqAt.eqv_refl (toD (.tup ps)) h.2.1]
  exact q
def sp_isread : PSp := fun ps M Q => ∃ (D : Dk) (ns : List Nat) (dk : Addr) (l : List Nat) (r : Rd) (j : List Nat), ps = [.ref dk, T l, lawP5 r j] ∧ readJ D l = some (r, j) ∧ M dk = some (.lst (deskL D ns)) ∧ D.Ok ∧ l.length + 4 < 2 ^ 20 ∧ (lines l).length ≤ 90 ∧ Q (.bl true) M
theorem sp_isread_len : ∀ vs M Q, sp_isread vs M Q → vs.length = 3 := fun vs M Q ⟨a, b, c, d, e, f, e', _⟩ => by rw [e']; rfl
abbrev s__law_is_read : Stmt := top 153
theorem sc__law_is_read : FnScope ["desk", "text", "due", "told", "step"] ["desk", "text", "due"] (defScope s__law_is_read) := ⟨rfl, rfl, rfl, by decide +kernel, rfl, by decide +kernel, by decide +kernel⟩
theorem c__law_is_read (F : Std K mg "_law_is_read" s__law_is_read) (B : BFree mg) (c__law_is_frac : C8.Cal P w K mg base 2 "_law_is_frac" (toSp K sp_isfrac) []) (c__law_is_ints : C8.Cal P w K mg base 2 "_law_is_ints" (toSp K sp_isints) []) (c__law_is_rows : C8.Cal P w K mg base 1 "_law_is_rows" (toSp K sp_isrows) []) (c_read_journal : C8.Cal P w K mg base 6 "read_journal" (toSp K sp_readj) []) : C8.Cal P w K mg base 7 "_law_is_read" (toSp K sp_isread) [] := by
  refine F.cal sc__law_is_read sp_isread_len (fun _ _ _ _ _ _ us hl => match us, hl with | [_, _, _], _ => rfl) (fun f cdv A outer s H E hr => ?_)
  have nd := sc__law_is_read.nd
  refine ⟨_, _, (qss_cons (qs_set (i := 3) nd rfl (by first | exact .inl rfl | exact .inr rfl) (qe_callK K c_read_journal hr (by decide) rfl (qa_cons (qe_ixK K (qe_var (i := 0) rfl (by first | exact .inl rfl | exact .inr (.inl rfl) | exact .inr (.inr rfl))) qe_int) (qa_cons (qe_ixK K (qe_var (i := 0) rfl (by first | exact .inl rfl | exact .inr (.inl rfl) | exact .inr (.inr rfl))) qe_int) (qa_cons (qe_ixK K (qe_var (i := 0) rfl (by first | exact .inl rfl | exact .inr (.inl rfl) | exact .inr (.inr rfl))) qe_int) (qa_cons (qe_var (i := 1) rfl (by first | exact .inl rfl | exact .inr (.inl rfl) | exact .inr (.inr rfl))) qa_nil))))))
      (qss_cons (qs_if (qt_isN (qe_var (i := 2) rfl (by first | exact .inl rfl | exact .inr (.inl rfl) | exact .inr (.inr rfl))) qe_non) (qss_one (qs_ret (qe_isN (qe_var (i := 3) rfl (by first | exact .inl rfl | exact .inr (.inl rfl) | exact .inr (.inr rfl))) qe_non))) qss_nil)
      (qss_cons (qs_if (QW.t (qw_or (qt_not (qt_val (qe_isiK K kit_tuple rfl B.f_isinstance (by decide +kernel) rfl B.f_tuple (by decide +kernel) (qe_var (i := 3) rfl (by first | exact .inl rfl | exact .inr (.inl rfl) | exact .inr (.inr rfl)))))) (qw_or (qt_neK K hr.units (qe_callBK K ac_len call_len rfl B.f_len PySem.boot_len (qa_cons (qe_var (i := 3) rfl (by first | exact .inl rfl | exact .inr (.inl rfl) | exact .inr (.inr rfl))) qa_nil)) qe_int (nomark _)) (qw_or1 (qt_not (qt_val (qe_callK K c__law_is_rows hr (by decide) rfl (qa_cons (qe_ixK K (qe_var (i := 3) rfl (by first | exact .inl rfl | exact .inr (.inl rfl) | exact .inr (.inr rfl))) qe_int) (qa_cons qe_int qa_nil))))))))) (qss_one (qs_ret qe_bl)) qss_nil)
      (qss_cons (qs_if (QW.t (qw_or (qt_not (qt_val (qe_callK K c__law_is_ints hr (by decide) rfl (qa_cons (qe_tup (qa_cons (qe_ixK K (qe_var (i := 3) rfl (by first | exact .inl rfl | exact .inr (.inl rfl) | exact .inr (.inr rfl))) qe_int) (qa_cons (qe_ixK K (qe_var (i := 3) rfl (by first | exact .inl rfl | exact .inr (.inl rfl) | exact .inr (.inr rfl))) qe_int) (qa_cons (qe_ixK K (qe_var (i := 3) rfl (by first | exact .inl rfl | exact .inr (.inl rfl) | exact .inr (.inr rfl))) qe_int) qa_nil)))) qa_nil)))) (qw_or1 (qt_not (qt_val (qe_callBK K ac_all (cr_all rfl) rfl B.f_all (by decide +kernel) (qa_cons (qe_lc (i := 4) rfl nd (qi_seqK K (qe_ixK K (qe_var (i := 3) rfl (by first | exact .inl rfl | exact .inr (.inl rfl) | exact .inr (.inr rfl))) qe_int)) (blkOk_by (by kernel_rfl)) (fun _ _ _ _ _ => pg_name (i := 4) nd rfl (Or.inl rfl)) (fun _ _ _ _ _ => qts_nil) (fun _ _ _ _ _ => (qe_callK K c__law_is_ints hr (by decide) rfl (qa_cons (qe_var (i := 4) rfl (by first | exact .inl rfl | exact .inr (.inl rfl) | exact .inr (.inr rfl))) qa_nil)))) qa_nil))))))) (qss_one (qs_ret qe_bl)) qss_nil)
      (qss_one (qs_ret (qe_and (qe_callK K c__law_is_frac hr (by decide) rfl (qa_cons (qe_ixK K (qe_var (i := 3) rfl (by first | exact .inl rfl | exact .inr (.inl rfl) | exact .inr (.inr rfl))) qe_int) qa_nil)) (qe_one (qe_eqK K hr.units (qe_var (i := 3) rfl (by first | exact .inl rfl | exact .inr (.inl rfl) | exact .inr (.inr rfl))) (qe_tup (qa_cons (qe_ixK K (qe_var (i := 2) rfl (by first | exact .inl rfl | exact .inr (.inl rfl) | exact .inr (.inr rfl))) qe_int) (qa_cons (qe_ixK K (qe_var (i := 2) rfl (by first | exact .inl rfl | exact .inr (.inl rfl) | exact .inr (.inr rfl))) qe_int) (qa_cons (qe_ixK K (qe_var (i := 2) rfl (by first | exact .inl rfl | exact .inr (.inl rfl) | exact .inr (.inr rfl))) qe_int) (qa_cons (qe_ixK K (qe_var (i := 2) rfl (by first | exact .inl rfl | exact .inr (.inl rfl) | exact .inr (.inr rfl))) qe_int) (qa_cons (qe_callBK K ac_len call_len rfl B.f_len PySem.boot_len (qa_cons (qe_ixK K (qe_var (i := 2) rfl (by first | exact .inl rfl | exact .inr (.inl rfl) | exact .inr (.inr rfl))) qe_int) qa_nil)) qa_nil)))))) (nomark _)))))))))), fun vs M Q h => ?_⟩
  obtain ⟨D, tb, dk, l, r, j, rfl, hj, hdk, ok, hl, hc, kQ⟩ := h
  obtain ⟨k, hk, hr, hg⟩ := readJ_ok ok hj
  walk_at "s"
  refine ix_l hdk (by decide) rfl (ix_l hdk (by decide) rfl (ix_l hdk (by decide) rfl ⟨D, l, rfl, ok, hl, hc, ?_⟩))
  rw [hj]
  refine ⟨fun h => (by cases h), fun _ => ?_⟩
  have htk : r.talk.length ≤ 90 := by have := hr.tk; omega
  have eG : Gs r.talk = .tup ((r.talk.map fun g => [I g.1, I g.2]).map CR.P.tup) := by
    unfold Gs
    rw [List.map_map]
    rfl
  have hrows : (r.talk.map fun g => [I g.1, I g.2]).all (fun xs => decide ((xs.length : Int) = 2)) = true := List.all_eq_true.mpr fun x hx => by
    obtain ⟨g, _, rfl⟩ := List.mem_map.mp hx
    rfl
  refine ⟨fun _ => len_t ⟨fun h => (by cases h), fun _ => i3 ?_⟩, fun h => absurd h (by decide)⟩
  refine ⟨r.talk.map fun g => [I g.1, I g.2], 2, by rw [eG], by rw [List.length_map]; omega, ?_⟩
  rw [hrows]
  refine ⟨fun _ => i0 (i1 (i4 ⟨_, rfl, fun x hx => ?_, by simp, ?_⟩)), fun h => (by cases h)⟩
  · simp only [List.mem_cons, List.not_mem_nil, or_false] at hx
    rcases hx with rfl | rfl | rfl <;> exact okd_int.1
  refine ⟨fun _ => i3 ?_, fun h => (by cases h)⟩
  refine lc_seqM (xs := r.talk.map fun g => .tup [I g.1, I g.2]) (fun _ => .bl true) (szl _ (by rw [List.length_map]; omega)) (fun i x M2 e hx l2 => ?_) (fun b M2 nb l2 m2 => ?_)
  · obtain ⟨g, _, rfl⟩ := List.mem_map.mp hx
    walk_at "s"
    refine ⟨_, rfl, fun x hx => ?_, by simp, Le.refl, fun _ _ _ => tsnoc e rfl⟩
    simp only [List.mem_cons, List.not_mem_nil, or_false] at hx
    rcases hx with rfl | rfl <;> exact okd_int.1
  · have m3 : M2 b = some (.lst ((r.talk.map fun _ => true).map CR.P.bl)) := by rw [List.map_map] at m2 ⊢; exact m2
    refine all_l m3 ?_
    have ha : (r.talk.map fun _ => true).all id = true := List.all_eq_true.mpr fun x hx => by
      obtain ⟨_, _, rfl⟩ := List.mem_map.mp hx
      rfl
    rw [ha]
    refine ⟨fun _ => i2 ⟨r.n, r.d, rfl, ?_⟩, fun h => (by cases h)⟩
    have hd1 : decide (1 ≤ r.d) = true := decide_eq_true (by have := hr.bt.2.1; omega)
    have hg1 : decide ((Int.gcd r.n r.d : Int) = 1) = true := decide_eq_true (by rw [hg]; rfl)
    rw [hd1, hg1]
    refine ⟨fun _ => i1 (i0 (i3 (i2 (i4 (len_T ?_ ?_))))), fun h => (by cases h)⟩
    · obtain ⟨e, he⟩ := readJ_pre hj
      have := congrArg List.length he
      rw [List.length_append] at this
      omega
    · refine eq_self (ps := [I r.lot, I r.mode, fr r.n r.d, Gs r.talk, I j.length]) (k := 3) (okd_tup fun p hp => ?_) (by decide) ⟨M, l2, kQ⟩
      simp only [List.mem_cons, List.not_mem_nil, or_false] at hp
      rcases hp with rfl | rfl | rfl | rfl | rfl
      · exact okd_int.up (by decide)
      · exact okd_int.up (by decide)
      · exact (okd_fr _ _).up (by decide)
      · exact okd_Gs _
      · exact okd_int.up (by decide)
end
end CR

set_option Elab.async false
set_option linter.all false
set_option maxRecDepth 100000
set_option maxHeartbeats 4000000
set_option exponentiation.threshold 300000
namespace CR
open PySem PySem.Spec L2
local macro_rules | `(tactic| walk_at "s") => `(tactic| dsimp only [fRet, fSeq, fCut, fAsg, fDrop, fIfS, fNext, fBreak, fCont, fVar, fC, fOp, fCall, fCons, fNil, fCB, fBMS, fBML, fTup, fLst, fTest, fNot, fAnd, fOr, fAndV, fOrV, fNotV, fIf, fNeg, fChain, fGName, fGTup, fGCons, fGNil, fAugI, fSl, fPart, fNoPart, fRevL, fLstRg, fRepl, fFld, fSFld, fMeth, fProp, fPropSet, fMake, fMakeV, fCMeth, fGSub, fAugSub, fISeq, fIStr, fIRng1, fIRng2, fFor, fWhile, fLc, fYes, fIsi, fOf, fSeqX, fIfX, fRaise, fSetMX, fTry, fFldX, fIsX, fCMK, fMD, nth, lawS, startP, setS, clrS, wipeS, fnEnds, pI0, pI])
local macro_rules | `(tactic| walk_at "d") => `(tactic| try dsimp only)
section
variable {P : Program} {w : World} {K : PySem.W.Frag} {mg : Str → Option Value} {base : Heap}
open SX
/-- what a sitting holds -/
def SitF (h : CR.P) (rs : Nat) (r : Rd) : List (Str × CR.P) := [("sat_house", h), ("read_state", I rs), ("contents", .tup [I r.mode, I r.lot, Gs r.talk])]
def SitAt (C : Addr) (M : Mp) (a : Addr) (h : CR.P) (rs : Nat) (r : Rd) : Prop := ∃ dx, M a = some (.ins C dx (SitF h rs r))
def sp_smode (C : Addr) : PSp := fun ps M Q => ∃ a h rs r, ps = [.ref a] ∧ SitAt C M a h rs r ∧ Q (I r.mode) M
theorem sp_smode_len (C : Addr) : ∀ vs M Q, sp_smode C vs M Q → vs.length = 1 := fun vs M Q ⟨a, b, c, d, e', _⟩ => by rw [e']; rfl
abbrev st_p_Sitting_mode : Stmt := meth 106 2
theorem sc_p_Sitting_mode : FnScope ["self"] ["self"] (defScope st_p_Sitting_mode) := ⟨rfl, rfl, rfl, by decide +kernel, rfl, by decide +kernel, by decide +kernel⟩
theorem p_Sitting_mode {C_Sitting : Addr} (F : PStd K C_Sitting "mode" "Sitting.mode" st_p_Sitting_mode) (B : BFree mg) (cl_Sitting : Cls K C_Sitting) (n_Sitting_contents : NoAttr K C_Sitting "contents") : PropCal P w K mg base 1 C_Sitting "mode" (toSp K (sp_smode C_Sitting)) := by
  refine F.prop sc_p_Sitting_mode (sp_smode_len C_Sitting) (fun _ _ _ _ _ _ us hl => match us, hl with | [_], _ => rfl) (fun f cdv A outer s H E hr => ?_)
  have nd := sc_p_Sitting_mode.nd
  refine ⟨_, _, (qss_one (qs_ret (qe_ixK K (qe_fld (C := C_Sitting) K cl_Sitting n_Sitting_contents (qe_var (i := 0) rfl (by first | exact .inl rfl | exact .inr (.inl rfl) | exact .inr (.inr rfl)))) qe_int))), fun vs M Q h => ?_⟩
  obtain ⟨a, h, rs, r, rfl, ⟨dx, hm⟩, kQ⟩ := h
  walk_at "s"
  exact ⟨dx, _, _, hm, rfl, i0 ⟨M, Le.refl, kQ⟩⟩
def sp_slot (C : Addr) : PSp := fun ps M Q => ∃ a h rs r, ps = [.ref a] ∧ SitAt C M a h rs r ∧ Q (I r.lot) M
theorem sp_slot_len (C : Addr) : ∀ vs M Q, sp_slot C vs M Q → vs.length = 1 := fun vs M Q ⟨a, b, c, d, e', _⟩ => by rw [e']; rfl
abbrev st_p_Sitting_lot : Stmt := meth 106 3
theorem sc_p_Sitting_lot : FnScope ["self"] ["self"] (defScope st_p_Sitting_lot) := ⟨rfl, rfl, rfl, by decide +kernel, rfl, by decide +kernel, by decide +kernel⟩
theorem p_Sitting_lot {C_Sitting : Addr} (F : PStd K C_Sitting "lot" "Sitting.lot" st_p_Sitting_lot) (B : BFree mg) (cl_Sitting : Cls K C_Sitting) (n_Sitting_contents : NoAttr K C_Sitting "contents") : PropCal P w K mg base 1 C_Sitting "lot" (toSp K (sp_slot C_Sitting)) := by
  refine F.prop sc_p_Sitting_lot (sp_slot_len C_Sitting) (fun _ _ _ _ _ _ us hl => match us, hl with | [_], _ => rfl) (fun f cdv A outer s H E hr => ?_)
  have nd := sc_p_Sitting_lot.nd
  refine ⟨_, _, (qss_one (qs_ret (qe_ixK K (qe_fld (C := C_Sitting) K cl_Sitting n_Sitting_contents (qe_var (i := 0) rfl (by first | exact .inl rfl | exact .inr (.inl rfl) | exact .inr (.inr rfl)))) qe_int))), fun vs M Q h => ?_⟩
  obtain ⟨a, h, rs, r, rfl, ⟨dx, hm⟩, kQ⟩ := h
  walk_at "s"
  exact ⟨dx, _, _, hm, rfl, i1 ⟨M, Le.refl, kQ⟩⟩
def sp_stalk (C : Addr) : PSp := fun ps M Q => ∃ a h rs r, ps = [.ref a] ∧ SitAt C M a h rs r ∧ Q (Gs r.talk) M
theorem sp_stalk_len (C : Addr) : ∀ vs M Q, sp_stalk C vs M Q → vs.length = 1 := fun vs M Q ⟨a, b, c, d, e', _⟩ => by rw [e']; rfl
abbrev st_p_Sitting_talk : Stmt := meth 106 4
theorem sc_p_Sitting_talk : FnScope ["self"] ["self"] (defScope st_p_Sitting_talk) := ⟨rfl, rfl, rfl, by decide +kernel, rfl, by decide +kernel, by decide +kernel⟩
theorem p_Sitting_talk {C_Sitting : Addr} (F : PStd K C_Sitting "talk" "Sitting.talk" st_p_Sitting_talk) (B : BFree mg) (cl_Sitting : Cls K C_Sitting) (n_Sitting_contents : NoAttr K C_Sitting "contents") : PropCal P w K mg base 1 C_Sitting "talk" (toSp K (sp_stalk C_Sitting)) := by
  refine F.prop sc_p_Sitting_talk (sp_stalk_len C_Sitting) (fun _ _ _ _ _ _ us hl => match us, hl with | [_], _ => rfl) (fun f cdv A outer s H E hr => ?_)
  have nd := sc_p_Sitting_talk.nd
  refine ⟨_, _, (qss_one (qs_ret (qe_ixK K (qe_fld (C := C_Sitting) K cl_Sitting n_Sitting_contents (qe_var (i := 0) rfl (by first | exact .inl rfl | exact .inr (.inl rfl) | exact .inr (.inr rfl)))) qe_int))), fun vs M Q h => ?_⟩
  obtain ⟨a, h, rs, r, rfl, ⟨dx, hm⟩, kQ⟩ := h
  walk_at "s"
  exact ⟨dx, _, _, hm, rfl, i2 ⟨M, Le.refl, kQ⟩⟩
/-- contents := (mode, lot, talk) of another reading -/
def sp_sset (C : Addr) : PSp := fun ps M Q => ∃ a h rs r r2, ps = [.ref a, .tup [I r2.mode, I r2.lot, Gs r2.talk]] ∧ SitAt C M a h rs r ∧ ∀ M', LeX a M M' → SitAt C M' a h rs r2 → Q .non M'
theorem sp_sset_len (C : Addr) : ∀ vs M Q, sp_sset C vs M Q → vs.length = 2 := fun vs M Q ⟨a, b, c, d, e, e', _⟩ => by rw [e']; rfl
abbrev st_s_Sitting_standing : Stmt := meth 106 6
theorem sc_s_Sitting_standing : FnScope ["self", "value"] ["self", "value"] (defScope st_s_Sitting_standing) := ⟨rfl, rfl, rfl, by decide +kernel, rfl, by decide +kernel, by decide +kernel⟩
theorem s_Sitting_standing {C_Sitting : Addr} (F : SStd K C_Sitting "standing" "Sitting.standing" st_s_Sitting_standing) (B : BFree mg) (cl_Sitting : Cls K C_Sitting) (n_Sitting_contents : NoAttr K C_Sitting "contents") : SetCal P w K mg base 1 C_Sitting "standing" (toSp K (sp_sset C_Sitting)) := by
  refine F.set sc_s_Sitting_standing (sp_sset_len C_Sitting) (fun _ _ _ _ _ _ us hl => match us, hl with | [_, _], _ => rfl) (fun f cdv A outer s H E hr => ?_)
  have nd := sc_s_Sitting_standing.nd
  refine ⟨_, _, (qss_one (qs_fld (C := C_Sitting) cl_Sitting n_Sitting_contents (qe_var (i := 0) rfl (by first | exact .inl rfl | exact .inr (.inl rfl) | exact .inr (.inr rfl))) (qe_var (i := 1) rfl (by first | exact .inl rfl | exact .inr (.inl rfl) | exact .inr (.inr rfl))))), fun vs M Q h => ?_⟩
  obtain ⟨a, h, rs, r, r2, rfl, ⟨dx, hm⟩, kQ⟩ := h
  walk_at "s"
  exact ⟨dx, _, hm, (show 3 < 1000 by decide), fun M' lx m' => ⟨M', Le.refl, kQ M' lx ⟨dx, m'⟩⟩⟩
abbrev st_m_Sitting_resume : Stmt := meth 106 7
theorem sc_m_Sitting_resume : FnScope ["self", "standing"] ["self", "standing"] (defScope st_m_Sitting_resume) := ⟨rfl, rfl, rfl, by decide +kernel, rfl, by decide +kernel, by decide +kernel⟩
theorem m_Sitting_resume {C_Sitting : Addr} (F : MStd K C_Sitting "resume" "Sitting.resume" st_m_Sitting_resume) (B : BFree mg) (s_Sitting_standing : SetCal P w K mg base 1 C_Sitting "standing" (toSp K (sp_sset C_Sitting))) : C8.Met P w K mg base 4 C_Sitting "resume" (toSp K (sp_sset C_Sitting)) [] := by
  refine F.met sc_m_Sitting_resume (sp_sset_len C_Sitting) (fun _ _ _ _ _ _ us hl => match us, hl with | [_, _], _ => rfl) (fun f cdv A outer s H E hr => ?_)
  have nd := sc_m_Sitting_resume.nd
  refine ⟨_, _, (qss_one (qs_propSet s_Sitting_standing hr (by decide) (qe_var (i := 0) rfl (by first | exact .inl rfl | exact .inr (.inl rfl) | exact .inr (.inr rfl))) (qe_var (i := 1) rfl (by first | exact .inl rfl | exact .inr (.inl rfl) | exact .inr (.inr rfl))))), fun vs M Q h => ?_⟩
  obtain ⟨a, h, rs, r, r2, rfl, ⟨dx, hm⟩, kQ⟩ := h
  walk_at "s"
  exact ⟨dx, _, hm, a, h, rs, r, r2, rfl, ⟨dx, hm⟩, fun M' lx sa => ⟨M', Le.refl, kQ M' lx sa⟩⟩
end
end CR

set_option Elab.async false
set_option linter.all false
set_option maxRecDepth 100000
set_option maxHeartbeats 4000000
set_option exponentiation.threshold 300000
namespace CR
open PySem PySem.Spec L2
local macro_rules | `(tactic| walk_at "s") => `(tactic| dsimp only [fRet, fSeq, fCut, fAsg, fDrop, fIfS, fNext, fBreak, fCont, fVar, fC, fOp, fCall, fCons, fNil, fCB, fBMS, fBML, fTup, fLst, fTest, fNot, fAnd, fOr, fAndV, fOrV, fNotV, fIf, fNeg, fChain, fGName, fGTup, fGCons, fGNil, fAugI, fSl, fPart, fNoPart, fRevL, fLstRg, fRepl, fFld, fSFld, fMeth, fProp, fPropSet, fMake, fMakeV, fCMeth, fGSub, fAugSub, fISeq, fIStr, fIRng1, fIRng2, fFor, fWhile, fLc, fYes, fIsi, fOf, fSeqX, fIfX, fRaise, fSetMX, fTry, fFldX, fIsX, fCMK, fMD, nth, lawS, startP, setS, clrS, wipeS, fnEnds, pI0, pI])
local macro_rules | `(tactic| walk_at "d") => `(tactic| try dsimp only)
section
variable {P : Program} {w : World} {K : PySem.W.Frag} {mg : Str → Option Value} {base : Heap}
open SX
/-- the state that a reader comes to -/
def stN (rd : List (List Nat)) : Nat → List Nat → Nat
  | s, [] => s
  | s, k :: ks => stN rd ((rd.getD s []).getD k 0) ks
theorem stN_snoc (rd : List (List Nat)) : ∀ (s : Nat) (ks : List Nat) (k : Nat), stN rd s (ks ++ [k]) = (rd.getD (stN rd s ks) []).getD k 0
  | s, [], k => rfl
  | s, q :: ks, k => by
    show stN rd _ (ks ++ [k]) = _
    rw [stN_snoc rd _ ks k]
    rfl
theorem rd_get {rs : List (List Nat)} {k a b : Nat} (hr : RdOk k rs.length rs) (ha : a < rs.length) (hb : b < k) : ∃ r, rs[a]? = some r ∧ r[b]? = some ((rs.getD a []).getD b 0) ∧ (rs.getD a []).getD b 0 < rs.length := by
  obtain ⟨r, er, hmr⟩ := mem_get ha
  obtain ⟨h1, h2⟩ := hr.2 r hmr
  obtain ⟨n, en, hn⟩ := mem_get (xs := r) (i := b) (by omega)
  have e1 : rs.getD a [] = r := by rw [List.getD_eq_getElem?_getD, er]; rfl
  have e2 : r.getD b 0 = n := by rw [List.getD_eq_getElem?_getD, en]; rfl
  rw [e1, e2]
  exact ⟨r, er, en, h2 n hn⟩
def sp_after : PSp := fun ps M Q => ∃ (rs : List (List Nat)) (k a b : Nat), ps = [.tup [.str "reader", .tup (rs.map It)], I a, I b] ∧ RdOk k rs.length rs ∧ a < rs.length ∧ b < k ∧ Q (I ((rs.getD a []).getD b 0)) M
theorem sp_after_len : ∀ vs M Q, sp_after vs M Q → vs.length = 3 := fun vs M Q ⟨a, b, c, d, e', _⟩ => by rw [e']; rfl
abbrev s_after : Stmt := top 80
theorem sc_after : FnScope ["reader", "state", "kind"] ["reader", "state", "kind"] (defScope s_after) := ⟨rfl, rfl, rfl, by decide +kernel, rfl, by decide +kernel, by decide +kernel⟩
theorem c_after (F : Std K mg "after" s_after) (B : BFree mg) : C8.Cal P w K mg base 1 "after" (toSp K sp_after) [] := by
  refine F.cal sc_after sp_after_len (fun _ _ _ _ _ _ us hl => match us, hl with | [_, _, _], _ => rfl) (fun f cdv A outer s H E hr => ?_)
  have nd := sc_after.nd
  refine ⟨_, _, (qss_one (qs_ret (qe_ixK K (qe_ixK K (qe_ixK K (qe_var (i := 0) rfl (by first | exact .inl rfl | exact .inr (.inl rfl) | exact .inr (.inr rfl))) qe_int) (qe_var (i := 1) rfl (by first | exact .inl rfl | exact .inr (.inl rfl) | exact .inr (.inr rfl)))) (qe_var (i := 2) rfl (by first | exact .inl rfl | exact .inr (.inl rfl) | exact .inr (.inr rfl)))))), fun vs M Q h => ?_⟩
  obtain ⟨rs, k, a, b, rfl, hr, ha, hb, kQ⟩ := h
  obtain ⟨r, er, en, hn⟩ := rd_get hr ha hb
  walk_at "s"
  exact i1 (ixm er (ixm en ⟨M, Le.refl, kQ⟩))
def sp_state : PSp := fun ps M Q => ∃ (rs : List (List Nat)) (k : Nat) (ns : List Nat), ps = [.tup [.str "reader", .tup (rs.map It)], It ns] ∧ RdOk k rs.length rs ∧ 0 < rs.length ∧ (∀ n ∈ ns, n < k) ∧ (stN rs 0 ns < rs.length → Q (I (stN rs 0 ns)) M)
theorem sp_state_len : ∀ vs M Q, sp_state vs M Q → vs.length = 2 := fun vs M Q ⟨a, b, c, e', _⟩ => by rw [e']; rfl
theorem take_snoc {α : Type} {xs : List α} {i : Nat} {x : α} (e : xs[i]? = some x) : xs.take (i + 1) = xs.take i ++ [x] := by rw [List.take_succ, e]; rfl
abbrev s_state_of : Stmt := top 81
theorem sc_state_of : FnScope ["reader", "table", "state", "kind"] ["reader", "table"] (defScope s_state_of) := ⟨rfl, rfl, rfl, by decide +kernel, rfl, by decide +kernel, by decide +kernel⟩
theorem c_state_of (F : Std K mg "state_of" s_state_of) (B : BFree mg) (c_after : C8.Cal P w K mg base 1 "after" (toSp K sp_after) []) : C8.Cal P w K mg base 2 "state_of" (toSp K sp_state) [] := by
  refine F.cal sc_state_of sp_state_len (fun _ _ _ _ _ _ us hl => match us, hl with | [_, _], _ => rfl) (fun f cdv A outer s H E hr => ?_)
  have nd := sc_state_of.nd
  refine ⟨_, _, (qss_cons (qs_set (i := 2) nd rfl (by first | exact .inl rfl | exact .inr rfl) qe_int)
      (qss_cut (qs_for PassesOwn.never rfl (qi_seqK K (qe_var (i := 1) rfl (by first | exact .inl rfl | exact .inr (.inl rfl) | exact .inr (.inr rfl)))) (qg_name (i := 3) nd rfl (by first | exact .inl rfl | exact .inr rfl)) (qss_one (qs_set (i := 2) nd rfl (by first | exact .inl rfl | exact .inr rfl) (qe_callK K c_after hr (by decide) rfl (qa_cons (qe_var (i := 0) rfl (by first | exact .inl rfl | exact .inr (.inl rfl) | exact .inr (.inr rfl))) (qa_cons (qe_var (i := 2) rfl (by first | exact .inl rfl | exact .inr (.inl rfl) | exact .inr (.inr rfl))) (qa_cons (qe_var (i := 3) rfl (by first | exact .inl rfl | exact .inr (.inl rfl) | exact .inr (.inr rfl))) qa_nil)))))))
      (qss_one (qs_ret (qe_var (i := 2) rfl (by first | exact .inl rfl | exact .inr (.inl rfl) | exact .inr (.inr rfl))))))), fun vs M Q h => ?_⟩
  obtain ⟨rs, k, ns, rfl, hr, h0, hn, kQ⟩ := h
  walk_at "s"
  refine ⟨fun ρ M' => M' = M ∧ ∃ u, stN rs 0 ns < rs.length ∧ ρ = [some (.tup [.str "reader", .tup (rs.map It)]), some (It ns), some (I (stN rs 0 ns)), u], for_seq (fun i ρ M' => M' = M ∧ ∃ u, stN rs 0 (ns.take i) < rs.length ∧ ρ = [some (.tup [.str "reader", .tup (rs.map It)]), some (It ns), some (I (stN rs 0 (ns.take i))), u]) ⟨rfl, none, h0, rfl⟩ (fun i x ρ M' e hx ⟨eM, u, h1, eρ⟩ => ?_) (fun ρ M' ⟨eM, u, h1, eρ⟩ => ?_), ?_⟩
  · subst eM eρ
    obtain ⟨m, hm, rfl⟩ := List.mem_map.mp hx
    rw [List.getElem?_map] at e
    cases em : ns[i]? with
    | none => rw [em] at e; cases e
    | some m' =>
    rw [em] at e
    have e2 : m' = m := by
      have e3 : I m' = I m := Option.some.inj e
      injection e3 with e4
      first | exact Int.ofNat.inj e4 | omega
    subst e2
    obtain ⟨r, er, en, hlt⟩ := rd_get hr h1 (hn m' hm)
    walk_at "s"
    refine ⟨rs, k, stN rs 0 (ns.take i), m', rfl, hr, h1, hn m' hm, rfl, some (I m'), ?_, ?_⟩
    · rw [take_snoc em, stN_snoc]
      exact hlt
    · rw [take_snoc em, stN_snoc]
  · rw [List.length_map, List.take_length] at h1 eρ
    exact ⟨eM, u, h1, eρ⟩
  · rintro ρ M' ⟨rfl, u, h1, rfl⟩
    walk_at "s"
    exact ⟨M', Le.refl, kQ h1⟩
abbrev s__law_state : Stmt := top 130
theorem sc__law_state : FnScope ["reader", "table", "state", "kind"] ["reader", "table"] (defScope s__law_state) := ⟨rfl, rfl, rfl, by decide +kernel, rfl, by decide +kernel, by decide +kernel⟩
theorem c__law_state (F : Std K mg "_law_state" s__law_state) (B : BFree mg) : C8.Cal P w K mg base 1 "_law_state" (toSp K sp_state) [] := by
  refine F.cal sc__law_state sp_state_len (fun _ _ _ _ _ _ us hl => match us, hl with | [_, _], _ => rfl) (fun f cdv A outer s H E hr => ?_)
  have nd := sc__law_state.nd
  refine ⟨_, _, (qss_cons (qs_set (i := 2) nd rfl (by first | exact .inl rfl | exact .inr rfl) qe_int)
      (qss_cut (qs_for PassesOwn.never rfl (qi_seqK K (qe_var (i := 1) rfl (by first | exact .inl rfl | exact .inr (.inl rfl) | exact .inr (.inr rfl)))) (qg_name (i := 3) nd rfl (by first | exact .inl rfl | exact .inr rfl)) (qss_one (qs_set (i := 2) nd rfl (by first | exact .inl rfl | exact .inr rfl) (qe_ixK K (qe_ixK K (qe_ixK K (qe_var (i := 0) rfl (by first | exact .inl rfl | exact .inr (.inl rfl) | exact .inr (.inr rfl))) qe_int) (qe_var (i := 2) rfl (by first | exact .inl rfl | exact .inr (.inl rfl) | exact .inr (.inr rfl)))) (qe_var (i := 3) rfl (by first | exact .inl rfl | exact .inr (.inl rfl) | exact .inr (.inr rfl)))))))
      (qss_one (qs_ret (qe_var (i := 2) rfl (by first | exact .inl rfl | exact .inr (.inl rfl) | exact .inr (.inr rfl))))))), fun vs M Q h => ?_⟩
  obtain ⟨rs, k, ns, rfl, hr, h0, hn, kQ⟩ := h
  walk_at "s"
  refine ⟨fun ρ M' => M' = M ∧ ∃ u, stN rs 0 ns < rs.length ∧ ρ = [some (.tup [.str "reader", .tup (rs.map It)]), some (It ns), some (I (stN rs 0 ns)), u], for_seq (fun i ρ M' => M' = M ∧ ∃ u, stN rs 0 (ns.take i) < rs.length ∧ ρ = [some (.tup [.str "reader", .tup (rs.map It)]), some (It ns), some (I (stN rs 0 (ns.take i))), u]) ⟨rfl, none, h0, rfl⟩ (fun i x ρ M' e hx ⟨eM, u, h1, eρ⟩ => ?_) (fun ρ M' ⟨eM, u, h1, eρ⟩ => ?_), ?_⟩
  · subst eM eρ
    obtain ⟨m, hm, rfl⟩ := List.mem_map.mp hx
    rw [List.getElem?_map] at e
    cases em : ns[i]? with
    | none => rw [em] at e; cases e
    | some m' =>
    rw [em] at e
    have e2 : m' = m := by
      have e3 : I m' = I m := Option.some.inj e
      injection e3 with e4
      first | exact Int.ofNat.inj e4 | omega
    subst e2
    obtain ⟨r, er, en, hlt⟩ := rd_get hr h1 (hn m' hm)
    walk_at "s"
    refine i1 (ixm er (ixm en ⟨rfl, some (I m'), ?_, ?_⟩))
    · rw [take_snoc em, stN_snoc]
      exact hlt
    · rw [take_snoc em, stN_snoc]
  · rw [List.length_map, List.take_length] at h1 eρ
    exact ⟨eM, u, h1, eρ⟩
  · rintro ρ M' ⟨rfl, u, h1, rfl⟩
    walk_at "s"
    exact ⟨M', Le.refl, kQ h1⟩
end
end CR

set_option Elab.async false
set_option linter.all false
set_option maxRecDepth 100000
set_option maxHeartbeats 4000000
set_option exponentiation.threshold 300000
namespace CR
open PySem PySem.Spec L2
local macro_rules | `(tactic| walk_at "s") => `(tactic| dsimp only [fRet, fSeq, fCut, fAsg, fDrop, fIfS, fNext, fBreak, fCont, fVar, fC, fOp, fCall, fCons, fNil, fCB, fBMS, fBML, fTup, fLst, fTest, fNot, fAnd, fOr, fAndV, fOrV, fNotV, fIf, fNeg, fChain, fGName, fGTup, fGCons, fGNil, fAugI, fSl, fPart, fNoPart, fRevL, fLstRg, fRepl, fFld, fSFld, fMeth, fProp, fPropSet, fMake, fMakeV, fCMeth, fGSub, fAugSub, fISeq, fIStr, fIRng1, fIRng2, fFor, fWhile, fLc, fYes, fIsi, fOf, fSeqX, fIfX, fRaise, fSetMX, fTry, fFldX, fIsX, fCMK, fMD, nth, lawS, startP, setS, clrS, wipeS, fnEnds, pI0, pI])
local macro_rules | `(tactic| walk_at "d") => `(tactic| try dsimp only)
section
variable {P : Program} {w : World} {K : PySem.W.Frag} {mg : Str → Option Value} {base : Heap}
open SX
def sp_sinit (C : Addr) : PSp := fun ps M Q => ∃ (a dx : Addr) (h : Hs) (k : Nat) (ns : List Nat) (first : Nat), ps = [.ref a, h.p, It ns, .int first] ∧ M a = some (.ins C dx []) ∧ h.Ok k ∧ (∀ n ∈ ns, n < k) ∧ first < h.lots.sum ∧
  ∀ M', LeX a M M' → SitAt C M' a h.p (stN h.rd 0 ns) (rd0 (numOf h.lots first)) → Q .non M'
theorem sp_sinit_len (C : Addr) : ∀ vs M Q, sp_sinit C vs M Q → vs.length = 4 := fun vs M Q ⟨a, b, c, d, e, f, e', _⟩ => by rw [e']; rfl
abbrev st_k_Sitting : Stmt := meth 106 0
theorem sc_k_Sitting : FnScope ["self", "house", "table", "first"] ["self", "house", "table", "first"] (defScope st_k_Sitting) := ⟨rfl, rfl, rfl, by decide +kernel, rfl, by decide +kernel, by decide +kernel⟩
theorem k_Sitting {C_Sitting : Addr} (F : IStd K mg "Sitting" C_Sitting "Sitting.__init__" st_k_Sitting [V.int 0]) (B : BFree mg) (cl_Sitting : Cls K C_Sitting) (n_Sitting_contents : NoAttr K C_Sitting "contents") (n_Sitting_read_state : NoAttr K C_Sitting "read_state") (n_Sitting_sat_house : NoAttr K C_Sitting "sat_house") (c_number_told : C8.Cal P w K mg base 1 "number_told" (toSp K sp_number) []) (c_state_of : C8.Cal P w K mg base 2 "state_of" (toSp K sp_state) []) : C8.Mak P w K mg base 3 "Sitting" C_Sitting (toSp K (sp_sinit C_Sitting)) [] := by
  refine F.mak sc_k_Sitting (sp_sinit_len C_Sitting) (by simp) (fun T _ _ _ _ _ _ us its h1 h2 => match us, h1, its, h2 with | [_, _, _, _], _, [_], _ => ⟨_, rfl, rfl⟩) (fun f cdv A outer s H E hr => ?_)
  have nd := sc_k_Sitting.nd
  refine ⟨_, _, (qss_cons (qs_fld (C := C_Sitting) cl_Sitting n_Sitting_sat_house (qe_var (i := 0) rfl (by first | exact .inl rfl | exact .inr (.inl rfl) | exact .inr (.inr rfl))) (qe_var (i := 1) rfl (by first | exact .inl rfl | exact .inr (.inl rfl) | exact .inr (.inr rfl))))
      (qss_cons (qs_fld (C := C_Sitting) cl_Sitting n_Sitting_read_state (qe_var (i := 0) rfl (by first | exact .inl rfl | exact .inr (.inl rfl) | exact .inr (.inr rfl))) (qe_callK K c_state_of hr (by decide) rfl (qa_cons (qe_ixK K (qe_var (i := 1) rfl (by first | exact .inl rfl | exact .inr (.inl rfl) | exact .inr (.inr rfl))) qe_int) (qa_cons (qe_var (i := 2) rfl (by first | exact .inl rfl | exact .inr (.inl rfl) | exact .inr (.inr rfl))) qa_nil))))
      (qss_one (qs_fld (C := C_Sitting) cl_Sitting n_Sitting_contents (qe_var (i := 0) rfl (by first | exact .inl rfl | exact .inr (.inl rfl) | exact .inr (.inr rfl))) (qe_tup (qa_cons qe_int (qa_cons (qe_callK K c_number_told hr (by decide) rfl (qa_cons (qe_ixK K (qe_var (i := 1) rfl (by first | exact .inl rfl | exact .inr (.inl rfl) | exact .inr (.inr rfl))) qe_int) (qa_cons (qe_var (i := 3) rfl (by first | exact .inl rfl | exact .inr (.inl rfl) | exact .inr (.inr rfl))) qa_nil))) (qa_cons (qe_tup qa_nil) qa_nil)))))))), fun vs M Q h => ?_⟩
  obtain ⟨a, dx, h, k, ns, first, rfl, hm, hk, hn, hf, kQ⟩ := h
  walk_at "s"
  refine ⟨dx, _, hm, (show 0 < 1000 by decide), fun M1 l1 m1 => i1 ⟨h.rd, k, ns, rfl, hk.rd, hk.rl.1, hn, fun hst => ?_⟩⟩
  refine ⟨dx, _, m1, (show 1 < 1000 by decide), fun M2 l2 m2 => i3 ⟨h.lots, first, rfl, by have := hk.ll.2; omega, hf, ?_⟩⟩
  refine ⟨dx, _, m2, (show 2 < 1000 by decide), fun M3 l3 m3 => ⟨M3, Le.refl, kQ M3 ((l1.trans l2).trans l3) ⟨dx, m3⟩⟩⟩
end
end CR

set_option Elab.async false
set_option linter.all false
set_option maxRecDepth 100000
set_option maxHeartbeats 4000000
set_option exponentiation.threshold 300000
namespace CR
open PySem PySem.Spec L2
local macro_rules | `(tactic| walk_at "s") => `(tactic| dsimp only [fRet, fSeq, fCut, fAsg, fDrop, fIfS, fNext, fBreak, fCont, fVar, fC, fOp, fCall, fCons, fNil, fCB, fBMS, fBML, fTup, fLst, fTest, fNot, fAnd, fOr, fAndV, fOrV, fNotV, fIf, fNeg, fChain, fGName, fGTup, fGCons, fGNil, fAugI, fSl, fPart, fNoPart, fRevL, fLstRg, fRepl, fFld, fSFld, fMeth, fProp, fPropSet, fMake, fMakeV, fCMeth, fGSub, fAugSub, fISeq, fIStr, fIRng1, fIRng2, fFor, fWhile, fLc, fYes, fIsi, fOf, fSeqX, fIfX, fRaise, fSetMX, fTry, fFldX, fIsX, fCMK, fMD, nth, lawS, startP, setS, clrS, wipeS, fnEnds, pI0, pI])
local macro_rules | `(tactic| walk_at "d") => `(tactic| try dsimp only)
section
variable {P : Program} {w : World} {K : PySem.W.Frag} {mg : Str → Option Value} {base : Heap}
open SX
/-- what a guard holds -/
def GuF (D : Dk) (st : Addr) (r : Rd) (j : List Nat) : List (Str × CR.P) := [("kept_house", D.h.p), ("price_rows", .tup (D.rates.map Prs)), ("most_paid", fr D.bn D.bd), ("seat", .ref st), ("paid", fr r.n r.d), ("written", T j)]
def GuAt (CG CS : Addr) (M : Mp) (g : Addr) (D : Dk) (r : Rd) (j : List Nat) : Prop := ∃ dx st, M g = some (.ins CG dx (GuF D st r j)) ∧ SitAt CS M st D.h.p D.st r
def sp_gmode (CG CS : Addr) : PSp := fun ps M Q => ∃ g D r j, ps = [.ref g] ∧ GuAt CG CS M g D r j ∧ Q (I r.mode) M
theorem sp_gmode_len (CG CS : Addr) : ∀ vs M Q, sp_gmode CG CS vs M Q → vs.length = 1 := fun vs M Q ⟨a, b, c, d, e', _⟩ => by rw [e']; rfl
abbrev st_p_Guard_mode : Stmt := meth 108 3
theorem sc_p_Guard_mode : FnScope ["self"] ["self"] (defScope st_p_Guard_mode) := ⟨rfl, rfl, rfl, by decide +kernel, rfl, by decide +kernel, by decide +kernel⟩
theorem p_Guard_mode {C_Guard : Addr} {C_Sitting : Addr} (F : PStd K C_Guard "mode" "Guard.mode" st_p_Guard_mode) (B : BFree mg) (cl_Guard : Cls K C_Guard) (n_Guard_seat : NoAttr K C_Guard "seat") (p_Sitting_mode : PropCal P w K mg base 1 C_Sitting "mode" (toSp K (sp_smode C_Sitting))) : PropCal P w K mg base 3 C_Guard "mode" (toSp K (sp_gmode C_Guard C_Sitting)) := by
  refine F.prop sc_p_Guard_mode (sp_gmode_len C_Guard C_Sitting) (fun _ _ _ _ _ _ us hl => match us, hl with | [_], _ => rfl) (fun f cdv A outer s H E hr => ?_)
  have nd := sc_p_Guard_mode.nd
  refine ⟨_, _, (qss_one (qs_ret (qe_prop p_Sitting_mode hr (by decide) (qe_fld (C := C_Guard) K cl_Guard n_Guard_seat (qe_var (i := 0) rfl (by first | exact .inl rfl | exact .inr (.inl rfl) | exact .inr (.inr rfl))))))), fun vs M Q h => ?_⟩
  obtain ⟨g, D, r, j, rfl, ⟨dx, st, hm, hs⟩, kQ⟩ := h
  walk_at "s"
  obtain ⟨dy, hs'⟩ := hs
  exact ⟨dx, _, _, hm, rfl, dy, _, hs', st, D.h.p, D.st, r, rfl, ⟨dy, hs'⟩, M, Le.refl, kQ⟩
def sp_gspent (CG CS : Addr) : PSp := fun ps M Q => ∃ g D r j, ps = [.ref g] ∧ GuAt CG CS M g D r j ∧ Q (fr r.n r.d) M
theorem sp_gspent_len (CG CS : Addr) : ∀ vs M Q, sp_gspent CG CS vs M Q → vs.length = 1 := fun vs M Q ⟨a, b, c, d, e', _⟩ => by rw [e']; rfl
abbrev st_p_Guard_spent : Stmt := meth 108 6
theorem sc_p_Guard_spent : FnScope ["self"] ["self"] (defScope st_p_Guard_spent) := ⟨rfl, rfl, rfl, by decide +kernel, rfl, by decide +kernel, by decide +kernel⟩
theorem p_Guard_spent {C_Guard : Addr} {C_Sitting : Addr} (F : PStd K C_Guard "spent" "Guard.spent" st_p_Guard_spent) (B : BFree mg) (cl_Guard : Cls K C_Guard) (n_Guard_paid : NoAttr K C_Guard "paid") : PropCal P w K mg base 1 C_Guard "spent" (toSp K (sp_gspent C_Guard C_Sitting)) := by
  refine F.prop sc_p_Guard_spent (sp_gspent_len C_Guard C_Sitting) (fun _ _ _ _ _ _ us hl => match us, hl with | [_], _ => rfl) (fun f cdv A outer s H E hr => ?_)
  have nd := sc_p_Guard_spent.nd
  refine ⟨_, _, (qss_one (qs_ret (qe_fld (C := C_Guard) K cl_Guard n_Guard_paid (qe_var (i := 0) rfl (by first | exact .inl rfl | exact .inr (.inl rfl) | exact .inr (.inr rfl)))))), fun vs M Q h => ?_⟩
  obtain ⟨g, D, r, j, rfl, ⟨dx, st, hm, hs⟩, kQ⟩ := h
  walk_at "s"
  exact ⟨dx, _, _, hm, rfl, M, Le.refl, kQ⟩
def sp_glot (CG CS : Addr) : PSp := fun ps M Q => ∃ g D r j, ps = [.ref g] ∧ GuAt CG CS M g D r j ∧ Q (I r.lot) M
theorem sp_glot_len (CG CS : Addr) : ∀ vs M Q, sp_glot CG CS vs M Q → vs.length = 1 := fun vs M Q ⟨a, b, c, d, e', _⟩ => by rw [e']; rfl
abbrev st_p_Guard_lot : Stmt := meth 108 4
theorem sc_p_Guard_lot : FnScope ["self"] ["self"] (defScope st_p_Guard_lot) := ⟨rfl, rfl, rfl, by decide +kernel, rfl, by decide +kernel, by decide +kernel⟩
theorem p_Guard_lot {C_Guard : Addr} {C_Sitting : Addr} (F : PStd K C_Guard "lot" "Guard.lot" st_p_Guard_lot) (B : BFree mg) (cl_Guard : Cls K C_Guard) (n_Guard_seat : NoAttr K C_Guard "seat") (p_Sitting_lot : PropCal P w K mg base 1 C_Sitting "lot" (toSp K (sp_slot C_Sitting))) : PropCal P w K mg base 3 C_Guard "lot" (toSp K (sp_glot C_Guard C_Sitting)) := by
  refine F.prop sc_p_Guard_lot (sp_glot_len C_Guard C_Sitting) (fun _ _ _ _ _ _ us hl => match us, hl with | [_], _ => rfl) (fun f cdv A outer s H E hr => ?_)
  have nd := sc_p_Guard_lot.nd
  refine ⟨_, _, (qss_one (qs_ret (qe_prop p_Sitting_lot hr (by decide) (qe_fld (C := C_Guard) K cl_Guard n_Guard_seat (qe_var (i := 0) rfl (by first | exact .inl rfl | exact .inr (.inl rfl) | exact .inr (.inr rfl))))))), fun vs M Q h => ?_⟩
  obtain ⟨g, D, r, j, rfl, ⟨dx, st, hm, hs⟩, kQ⟩ := h
  walk_at "s"
  obtain ⟨dy, hs'⟩ := hs
  exact ⟨dx, _, _, hm, rfl, dy, _, hs', st, D.h.p, D.st, r, rfl, ⟨dy, hs'⟩, M, Le.refl, kQ⟩
def sp_gtalk (CG CS : Addr) : PSp := fun ps M Q => ∃ g D r j, ps = [.ref g] ∧ GuAt CG CS M g D r j ∧ Q (Gs r.talk) M
theorem sp_gtalk_len (CG CS : Addr) : ∀ vs M Q, sp_gtalk CG CS vs M Q → vs.length = 1 := fun vs M Q ⟨a, b, c, d, e', _⟩ => by rw [e']; rfl
abbrev st_p_Guard_talk : Stmt := meth 108 5
theorem sc_p_Guard_talk : FnScope ["self"] ["self"] (defScope st_p_Guard_talk) := ⟨rfl, rfl, rfl, by decide +kernel, rfl, by decide +kernel, by decide +kernel⟩
theorem p_Guard_talk {C_Guard : Addr} {C_Sitting : Addr} (F : PStd K C_Guard "talk" "Guard.talk" st_p_Guard_talk) (B : BFree mg) (cl_Guard : Cls K C_Guard) (n_Guard_seat : NoAttr K C_Guard "seat") (p_Sitting_talk : PropCal P w K mg base 1 C_Sitting "talk" (toSp K (sp_stalk C_Sitting))) : PropCal P w K mg base 3 C_Guard "talk" (toSp K (sp_gtalk C_Guard C_Sitting)) := by
  refine F.prop sc_p_Guard_talk (sp_gtalk_len C_Guard C_Sitting) (fun _ _ _ _ _ _ us hl => match us, hl with | [_], _ => rfl) (fun f cdv A outer s H E hr => ?_)
  have nd := sc_p_Guard_talk.nd
  refine ⟨_, _, (qss_one (qs_ret (qe_prop p_Sitting_talk hr (by decide) (qe_fld (C := C_Guard) K cl_Guard n_Guard_seat (qe_var (i := 0) rfl (by first | exact .inl rfl | exact .inr (.inl rfl) | exact .inr (.inr rfl))))))), fun vs M Q h => ?_⟩
  obtain ⟨g, D, r, j, rfl, ⟨dx, st, hm, hs⟩, kQ⟩ := h
  walk_at "s"
  obtain ⟨dy, hs'⟩ := hs
  exact ⟨dx, _, _, hm, rfl, dy, _, hs', st, D.h.p, D.st, r, rfl, ⟨dy, hs'⟩, M, Le.refl, kQ⟩
def sp_gjournal (CG CS : Addr) : PSp := fun ps M Q => ∃ g D r j, ps = [.ref g] ∧ GuAt CG CS M g D r j ∧ Q (T j) M
theorem sp_gjournal_len (CG CS : Addr) : ∀ vs M Q, sp_gjournal CG CS vs M Q → vs.length = 1 := fun vs M Q ⟨a, b, c, d, e', _⟩ => by rw [e']; rfl
abbrev st_p_Guard_journal : Stmt := meth 108 7
theorem sc_p_Guard_journal : FnScope ["self"] ["self"] (defScope st_p_Guard_journal) := ⟨rfl, rfl, rfl, by decide +kernel, rfl, by decide +kernel, by decide +kernel⟩
theorem p_Guard_journal {C_Guard : Addr} {C_Sitting : Addr} (F : PStd K C_Guard "journal" "Guard.journal" st_p_Guard_journal) (B : BFree mg) (cl_Guard : Cls K C_Guard) (n_Guard_written : NoAttr K C_Guard "written") : PropCal P w K mg base 1 C_Guard "journal" (toSp K (sp_gjournal C_Guard C_Sitting)) := by
  refine F.prop sc_p_Guard_journal (sp_gjournal_len C_Guard C_Sitting) (fun _ _ _ _ _ _ us hl => match us, hl with | [_], _ => rfl) (fun f cdv A outer s H E hr => ?_)
  have nd := sc_p_Guard_journal.nd
  refine ⟨_, _, (qss_one (qs_ret (qe_fld (C := C_Guard) K cl_Guard n_Guard_written (qe_var (i := 0) rfl (by first | exact .inl rfl | exact .inr (.inl rfl) | exact .inr (.inr rfl)))))), fun vs M Q h => ?_⟩
  obtain ⟨g, D, r, j, rfl, ⟨dx, st, hm, hs⟩, kQ⟩ := h
  walk_at "s"
  exact ⟨dx, _, _, hm, rfl, M, Le.refl, kQ⟩
end
end CR

set_option Elab.async false
set_option linter.all false
set_option maxRecDepth 100000
set_option maxHeartbeats 4000000
set_option exponentiation.threshold 300000
namespace CR
open PySem PySem.Spec L2
local macro_rules | `(tactic| walk_at "s") => `(tactic| dsimp only [fRet, fSeq, fCut, fAsg, fDrop, fIfS, fNext, fBreak, fCont, fVar, fC, fOp, fCall, fCons, fNil, fCB, fBMS, fBML, fTup, fLst, fTest, fNot, fAnd, fOr, fAndV, fOrV, fNotV, fIf, fNeg, fChain, fGName, fGTup, fGCons, fGNil, fAugI, fSl, fPart, fNoPart, fRevL, fLstRg, fRepl, fFld, fSFld, fMeth, fProp, fPropSet, fMake, fMakeV, fCMeth, fGSub, fAugSub, fISeq, fIStr, fIRng1, fIRng2, fFor, fWhile, fLc, fYes, fIsi, fOf, fSeqX, fIfX, fRaise, fSetMX, fTry, fFldX, fIsX, fCMK, fMD, nth, lawS, startP, setS, clrS, wipeS, fnEnds, pI0, pI])
local macro_rules | `(tactic| walk_at "d") => `(tactic| try dsimp only)
section
variable {P : Program} {w : World} {K : PySem.W.Frag} {mg : Str → Option Value} {base : Heap}
open SX
/-- a guard and its sitting, both newer than M0 -/
def GuNew (CG CS : Addr) (M0 M : Mp) (g : Addr) (D : Dk) (r : Rd) (j : List Nat) : Prop := Le M0 M ∧ M0 g = none ∧ ∃ dx st, M0 st = none ∧ g ≠ st ∧ M g = some (.ins CG dx (GuF D st r j)) ∧ SitAt CS M st D.h.p D.st r
def sp_ginit (CG CS : Addr) : PSp := fun ps M Q => ∃ (M0 : Mp) (g dx : Addr) (D : Dk) (k : Nat) (ns : List Nat) (first : Nat), ps = [.ref g, D.h.p, It ns, .tup (D.rates.map Prs), fr D.bn D.bd, .int first] ∧ Le M0 M ∧ M0 g = none ∧ M g = some (.ins CG dx []) ∧ D.h.Ok k ∧ (∀ n ∈ ns, n < k) ∧ stN D.h.rd 0 ns = D.st ∧ first < D.h.lots.sum ∧
  ∀ M', GuNew CG CS M0 M' g D (rd0 (numOf D.h.lots first)) (lineL (lotW (numOf D.h.lots first))) → Q .non M'
theorem sp_ginit_len (CG CS : Addr) : ∀ vs M Q, sp_ginit CG CS vs M Q → vs.length = 6 := fun vs M Q ⟨a0, a, b, c, d, e, f, e', _⟩ => by rw [e']; rfl
abbrev st_k_Guard : Stmt := meth 108 0
theorem sc_k_Guard : FnScope ["self", "house", "table", "prices", "budget", "first"] ["self", "house", "table", "prices", "budget", "first"] (defScope st_k_Guard) := ⟨rfl, rfl, rfl, by decide +kernel, rfl, by decide +kernel, by decide +kernel⟩
theorem k_Guard {C_Guard : Addr} {C_Sitting : Addr} (F : IStd K mg "Guard" C_Guard "Guard.__init__" st_k_Guard [V.int 0]) (B : BFree mg) {a_ONE : Addr} (h_ONE : GCT mg K "ONE" a_ONE [.int 1, .int 1]) (cl_Guard : Cls K C_Guard) (n_Guard_kept_house : NoAttr K C_Guard "kept_house") (n_Guard_most_paid : NoAttr K C_Guard "most_paid") (n_Guard_paid : NoAttr K C_Guard "paid") (n_Guard_price_rows : NoAttr K C_Guard "price_rows") (n_Guard_seat : NoAttr K C_Guard "seat") (n_Guard_written : NoAttr K C_Guard "written") (p_Sitting_lot : PropCal P w K mg base 1 C_Sitting "lot" (toSp K (sp_slot C_Sitting))) (k_Sitting : C8.Mak P w K mg base 3 "Sitting" C_Sitting (toSp K (sp_sinit C_Sitting)) []) (c_lot_line : C8.Cal P w K mg base 3 "lot_line" (toSp K sp_lot) []) : C8.Mak P w K mg base 5 "Guard" C_Guard (toSp K (sp_ginit C_Guard C_Sitting)) [] := by
  refine F.mak sc_k_Guard (sp_ginit_len C_Guard C_Sitting) (by simp) (fun T _ _ _ _ _ _ us its h1 h2 => match us, h1, its, h2 with | [_, _, _, _, _, _], _, [_], _ => ⟨_, rfl, rfl⟩) (fun f cdv A outer s H E hr => ?_)
  have nd := sc_k_Guard.nd
  refine ⟨_, _, (qss_cons (qs_fld (C := C_Guard) cl_Guard n_Guard_kept_house (qe_var (i := 0) rfl (by first | exact .inl rfl | exact .inr (.inl rfl) | exact .inr (.inr rfl))) (qe_var (i := 1) rfl (by first | exact .inl rfl | exact .inr (.inl rfl) | exact .inr (.inr rfl))))
      (qss_cons (qs_fld (C := C_Guard) cl_Guard n_Guard_price_rows (qe_var (i := 0) rfl (by first | exact .inl rfl | exact .inr (.inl rfl) | exact .inr (.inr rfl))) (qe_var (i := 3) rfl (by first | exact .inl rfl | exact .inr (.inl rfl) | exact .inr (.inr rfl))))
      (qss_cons (qs_fld (C := C_Guard) cl_Guard n_Guard_most_paid (qe_var (i := 0) rfl (by first | exact .inl rfl | exact .inr (.inl rfl) | exact .inr (.inr rfl))) (qe_var (i := 4) rfl (by first | exact .inl rfl | exact .inr (.inl rfl) | exact .inr (.inr rfl))))
      (qss_cons (qs_fld (C := C_Guard) cl_Guard n_Guard_seat (qe_var (i := 0) rfl (by first | exact .inl rfl | exact .inr (.inl rfl) | exact .inr (.inr rfl))) (qe_mk k_Sitting hr (by decide) rfl (qa_cons (qe_var (i := 1) rfl (by first | exact .inl rfl | exact .inr (.inl rfl) | exact .inr (.inr rfl))) (qa_cons (qe_var (i := 2) rfl (by first | exact .inl rfl | exact .inr (.inl rfl) | exact .inr (.inr rfl))) (qa_cons (qe_var (i := 5) rfl (by first | exact .inl rfl | exact .inr (.inl rfl) | exact .inr (.inr rfl))) qa_nil)))))
      (qss_cons (qs_fld (C := C_Guard) cl_Guard n_Guard_paid (qe_var (i := 0) rfl (by first | exact .inl rfl | exact .inr (.inl rfl) | exact .inr (.inr rfl))) (h_ONE.qe rfl))
      (qss_one (qs_fld (C := C_Guard) cl_Guard n_Guard_written (qe_var (i := 0) rfl (by first | exact .inl rfl | exact .inr (.inl rfl) | exact .inr (.inr rfl))) (qe_callK K c_lot_line hr (by decide) rfl (qa_cons (qe_prop p_Sitting_lot hr (by decide) (qe_fld (C := C_Guard) K cl_Guard n_Guard_seat (qe_var (i := 0) rfl (by first | exact .inl rfl | exact .inr (.inl rfl) | exact .inr (.inr rfl))))) qa_nil))))))))), fun vs M Q h => ?_⟩
  obtain ⟨M0, g, dx, D, k, ns, first, rfl, l0, n0, hm, hk, hn, hst, hf, kQ⟩ := h
  walk_at "s"
  refine ⟨dx, _, hm, (show 0 < 1000 by decide), fun M1 l1 m1 => ⟨dx, _, m1, (show 1 < 1000 by decide), fun M2 l2 m2 => ⟨dx, _, m2, (show 2 < 1000 by decide), fun M3 l3 m3 => ?_⟩⟩⟩
  intro st dy M4 nst l4 m4
  have hgs : g ≠ st := fun e => by rw [e, nst] at m3; cases m3
  refine ⟨st, dy, D.h, k, ns, first, rfl, m4, hk, hn, hf, fun M5 lx hs => ⟨rfl, ?_⟩⟩
  rw [hst] at hs
  have l35 : Le M3 M5 := l4.x nst lx
  refine ⟨dx, _, l35 _ _ m3, (show 3 < 1000 by decide), fun M6 l6 m6 => ?_⟩
  refine ⟨dx, _, m6, (show 4 < 1000 by decide), fun M7 l7 m7 => ?_⟩
  obtain ⟨dz, hs5⟩ := hs
  have hs7 := l7 _ _ hgs.symm (l6 _ _ hgs.symm hs5)
  refine ⟨dx, _, _, m7, rfl, dz, _, hs7, st, D.h.p, D.st, _, rfl, ⟨dz, hs7⟩, ?_⟩
  have hlt := numOf_lt _ _ hf
  refine ⟨numOf D.h.lots first, rfl, lt14 (by have := hk.ll.2; omega), dx, _, m7, (show 5 < 1000 by decide), fun M8 l8 m8 => ⟨M8, Le.refl, kQ M8 ?_⟩⟩
  have l03 := ((l0.x n0 l1).x n0 l2).x n0 l3
  exact ⟨(((l03.trans l35).x n0 l6).x n0 l7).x n0 l8, n0, dx, st, l03.none (by
    cases z : M3 st with
    | none => rfl
    | some o => rw [z] at nst; cases nst), hgs, m8, dz, l8 _ _ hgs.symm hs7⟩
end
end CR

set_option Elab.async false
set_option linter.all false
set_option maxRecDepth 100000
set_option maxHeartbeats 4000000
set_option exponentiation.threshold 300000
namespace CR
open PySem PySem.Spec L2
local macro_rules | `(tactic| walk_at "s") => `(tactic| dsimp only [fRet, fSeq, fCut, fAsg, fDrop, fIfS, fNext, fBreak, fCont, fVar, fC, fOp, fCall, fCons, fNil, fCB, fBMS, fBML, fTup, fLst, fTest, fNot, fAnd, fOr, fAndV, fOrV, fNotV, fIf, fNeg, fChain, fGName, fGTup, fGCons, fGNil, fAugI, fSl, fPart, fNoPart, fRevL, fLstRg, fRepl, fFld, fSFld, fMeth, fProp, fPropSet, fMake, fMakeV, fCMeth, fGSub, fAugSub, fISeq, fIStr, fIRng1, fIRng2, fFor, fWhile, fLc, fYes, fIsi, fOf, fSeqX, fIfX, fRaise, fSetMX, fTry, fFldX, fIsX, fCMK, fMD, nth, lawS, startP, setS, clrS, wipeS, fnEnds, pI0, pI])
local macro_rules | `(tactic| walk_at "d") => `(tactic| try dsimp only)
section
variable {P : Program} {w : World} {K : PySem.W.Frag} {mg : Str → Option Value} {base : Heap}
open SX
theorem cutS_from (l : List Nat) (n : Nat) : cutS (S l) (some (n : Int)) none = S (l.drop n) := by
  have e : (S l).cps.toList = l := by simp [S]
  unfold cutS
  rw [HT.sIx_none, HT.sIx_nat, S_len, e]
  refine congrArg S ?_
  rw [Nat.min_def]
  split
  · rw [List.take_of_length_le (by rw [List.length_drop]; exact Nat.le_refl _)]
  · rw [List.drop_of_length_le (Nat.le_refl _), List.drop_of_length_le (by omega), List.take_nil]
theorem slTo {l : List Nat} {k : Nat} {M : Mp} {Q : KE} (h : l.length < 2 ^ 20) (q : Q (T (l.take k)) M) : pSl (T l) none (some (k : Int)) M Q := sl_s (szS h) (by rw [cutS_to]; exact q)
theorem slFrom {l : List Nat} {k : Nat} {M : Mp} {Q : KE} (h : l.length < 2 ^ 20) (q : Q (T (l.drop k)) M) : pSl (T l) (some (k : Int)) none M Q := sl_s (szS h) (by rw [cutS_from]; exact q)
def sp_goon (CG CS : Addr) : PSp := fun ps M Q => ∃ (M0 : Mp) (g : Addr) (D : Dk) (r r2 : Rd) (j j2 l : List Nat), ps = [.ref g, oJ (some (r2, j2)), T l] ∧ GuNew CG CS M0 M g D r j ∧ l.length < 2 ^ 20 ∧ (∃ e, j2 ++ e = l) ∧ ∀ M', GuNew CG CS M0 M' g D r2 j2 → Q .non M'
theorem sp_goon_len (CG CS : Addr) : ∀ vs M Q, sp_goon CG CS vs M Q → vs.length = 3 := fun vs M Q ⟨a, b, c, d, e, f, g, h, e', _⟩ => by rw [e']; rfl
abbrev st_m_Guard_go_on : Stmt := meth 108 2
theorem sc_m_Guard_go_on : FnScope ["self", "found", "journal", "hidden", "behind", "spent_then", "steps", "length"] ["self", "found", "journal"] (defScope st_m_Guard_go_on) := ⟨rfl, rfl, rfl, by decide +kernel, rfl, by decide +kernel, by decide +kernel⟩
theorem m_Guard_go_on {C_Guard : Addr} {C_Sitting : Addr} (F : MStd K C_Guard "go_on" "Guard.go_on" st_m_Guard_go_on) (B : BFree mg) (cl_Guard : Cls K C_Guard) (n_Guard_paid : NoAttr K C_Guard "paid") (n_Guard_seat : NoAttr K C_Guard "seat") (n_Guard_written : NoAttr K C_Guard "written") (m_Sitting_resume : C8.Met P w K mg base 4 C_Sitting "resume" (toSp K (sp_sset C_Sitting)) []) : C8.Met P w K mg base 5 C_Guard "go_on" (toSp K (sp_goon C_Guard C_Sitting)) [] := by
  refine F.met sc_m_Guard_go_on (sp_goon_len C_Guard C_Sitting) (fun _ _ _ _ _ _ us hl => match us, hl with | [_, _, _], _ => rfl) (fun f cdv A outer s H E hr => ?_)
  have nd := sc_m_Guard_go_on.nd
  refine ⟨_, _, (qss_cons (qs_asg (qe_var (i := 1) rfl (by first | exact .inl rfl | exact .inr (.inl rfl) | exact .inr (.inr rfl))) (qg_tup rfl (qgs_cons (qg_name (i := 3) nd rfl (by first | exact .inl rfl | exact .inr rfl)) (qgs_cons (qg_name (i := 4) nd rfl (by first | exact .inl rfl | exact .inr rfl)) (qgs_cons (qg_name (i := 5) nd rfl (by first | exact .inl rfl | exact .inr rfl)) (qgs_cons (qg_name (i := 6) nd rfl (by first | exact .inl rfl | exact .inr rfl)) (qgs_cons (qg_name (i := 7) nd rfl (by first | exact .inl rfl | exact .inr rfl)) qgs_nil)))))))
      (qss_cons (qs_expr (qe_mt m_Sitting_resume hr (by decide) (qe_fld (C := C_Guard) K cl_Guard n_Guard_seat (qe_var (i := 0) rfl (by first | exact .inl rfl | exact .inr (.inl rfl) | exact .inr (.inr rfl)))) (qa_cons (qe_tup (qa_cons (qe_var (i := 4) rfl (by first | exact .inl rfl | exact .inr (.inl rfl) | exact .inr (.inr rfl))) (qa_cons (qe_var (i := 3) rfl (by first | exact .inl rfl | exact .inr (.inl rfl) | exact .inr (.inr rfl))) (qa_cons (qe_var (i := 6) rfl (by first | exact .inl rfl | exact .inr (.inl rfl) | exact .inr (.inr rfl))) qa_nil)))) qa_nil)))
      (qss_cons (qs_fld (C := C_Guard) cl_Guard n_Guard_paid (qe_var (i := 0) rfl (by first | exact .inl rfl | exact .inr (.inl rfl) | exact .inr (.inr rfl))) (qe_var (i := 5) rfl (by first | exact .inl rfl | exact .inr (.inl rfl) | exact .inr (.inr rfl))))
      (qss_one (qs_fld (C := C_Guard) cl_Guard n_Guard_written (qe_var (i := 0) rfl (by first | exact .inl rfl | exact .inr (.inl rfl) | exact .inr (.inr rfl))) (qe_sliceK K (qe_var (i := 2) rfl (by first | exact .inl rfl | exact .inr (.inl rfl) | exact .inr (.inr rfl))) qo_none (qo_some (qe_var (i := 7) rfl (by first | exact .inl rfl | exact .inr (.inl rfl) | exact .inr (.inr rfl)))))))))), fun vs M Q h => ?_⟩
  obtain ⟨M0, g, D, r, r2, j, j2, l, rfl, ⟨l0, n0, dx, st, ns0, hgs, hm, hs⟩, hl, ⟨e, he⟩, kQ⟩ := h
  walk_at "s"
  obtain ⟨dy, hs'⟩ := hs
  refine ⟨rfl, dx, _, _, hm, rfl, dy, _, hs', rfl, st, D.h.p, D.st, r, r2, rfl, ⟨dy, hs'⟩, fun M1 l1 h1 => ?_⟩
  have m1 := l1 _ _ hgs hm
  refine ⟨dx, _, m1, (show 6 < 1000 by decide), fun M2 l2 m2 => ?_⟩
  refine slTo hl ⟨dx, _, m2, (show 6 < 1000 by decide), fun M3 l3 m3 => ⟨M3, Le.refl, kQ M3 ?_⟩⟩
  obtain ⟨dz, h1'⟩ := h1
  have et : l.take j2.length = j2 := by rw [← he, List.take_left]
  rw [et] at m3
  exact ⟨((l0.x ns0 l1).x n0 l2).x n0 l3, n0, dx, st, ns0, hgs, m3, dz, l3 _ _ hgs.symm (l2 _ _ hgs.symm h1')⟩
end
end CR

set_option Elab.async false
set_option linter.all false
set_option maxRecDepth 100000
set_option maxHeartbeats 4000000
set_option exponentiation.threshold 300000
namespace CR
open PySem PySem.Spec L2
local macro_rules | `(tactic| walk_at "s") => `(tactic| dsimp only [fRet, fSeq, fCut, fAsg, fDrop, fIfS, fNext, fBreak, fCont, fVar, fC, fOp, fCall, fCons, fNil, fCB, fBMS, fBML, fTup, fLst, fTest, fNot, fAnd, fOr, fAndV, fOrV, fNotV, fIf, fNeg, fChain, fGName, fGTup, fGCons, fGNil, fAugI, fSl, fPart, fNoPart, fRevL, fLstRg, fRepl, fFld, fSFld, fMeth, fProp, fPropSet, fMake, fMakeV, fCMeth, fGSub, fAugSub, fISeq, fIStr, fIRng1, fIRng2, fFor, fWhile, fLc, fYes, fIsi, fOf, fSeqX, fIfX, fRaise, fSetMX, fTry, fFldX, fIsX, fCMK, fMD, nth, lawS, startP, setS, clrS, wipeS, fnEnds, pI0, pI])
local macro_rules | `(tactic| walk_at "d") => `(tactic| try dsimp only)
section
variable {P : Program} {w : World} {K : PySem.W.Frag} {mg : Str → Option Value} {base : Heap}
open SX
def jOf (D : Dk) (l : List Nat) (first : Nat) : Rd × List Nat := match readJ D l with
  | none => (rd0 (numOf D.h.lots first), lineL (lotW (numOf D.h.lots first)))
  | some q => q
def sp_resumed (CG CS : Addr) : PSp := fun ps M Q => ∃ (D : Dk) (k : Nat) (ns l : List Nat) (first : Nat), ps = [.ref CG, D.h.p, It ns, .tup (D.rates.map Prs), fr D.bn D.bd, T l, .int first] ∧ D.Ok ∧ D.h.Ok k ∧ (∀ n ∈ ns, n < k) ∧ stN D.h.rd 0 ns = D.st ∧ first < D.h.lots.sum ∧ l.length + 4 < 2 ^ 20 ∧ (lines l).length ≤ 90 ∧
  ∀ g M', GuNew CG CS M M' g D (jOf D l first).1 (jOf D l first).2 → Q (.ref g) M'
theorem sp_resumed_len (CG CS : Addr) : ∀ vs M Q, sp_resumed CG CS vs M Q → vs.length = 7 := fun vs M Q ⟨a, b, c, d, e, e', _⟩ => by rw [e']; rfl
abbrev st_d_Guard_resumed : Stmt := meth 108 1
theorem sc_d_Guard_resumed : FnScope ["cls", "house", "table", "prices", "budget", "journal", "first", "guard", "found"] ["cls", "house", "table", "prices", "budget", "journal", "first"] (defScope st_d_Guard_resumed) := ⟨rfl, rfl, rfl, by decide +kernel, rfl, by decide +kernel, by decide +kernel⟩
theorem d_Guard_resumed {C_Guard : Addr} {C_Sitting : Addr} (F : CStd K C_Guard "resumed" "Guard.resumed" st_d_Guard_resumed ([0].map V.int)) (B : BFree mg) (m_Guard_go_on : C8.Met P w K mg base 5 C_Guard "go_on" (toSp K (sp_goon C_Guard C_Sitting)) []) (k_Guard : C8.Mak P w K mg base 5 "Guard" C_Guard (toSp K (sp_ginit C_Guard C_Sitting)) []) (c_read_journal : C8.Cal P w K mg base 6 "read_journal" (toSp K sp_readj) []) : CMD P w K mg base 7 C_Guard "resumed" "Guard.resumed" st_d_Guard_resumed [0] ["cls", "house", "table", "prices", "budget", "journal", "first"] (toSp K (sp_resumed C_Guard C_Sitting)) := by
  refine F.cmd sc_d_Guard_resumed (sp_resumed_len C_Guard C_Sitting)  (fun f cdv A outer s H E hr => ?_)
  have nd := sc_d_Guard_resumed.nd
  refine ⟨_, _, (qss_cons (qs_set (i := 7) nd rfl (by first | exact .inl rfl | exact .inr rfl) (qe_mkV k_Guard hr (by decide) (i := 0) rfl (by first | exact .inl rfl | exact .inr (.inl rfl) | exact .inr (.inr rfl)) (qa_cons (qe_var (i := 1) rfl (by first | exact .inl rfl | exact .inr (.inl rfl) | exact .inr (.inr rfl))) (qa_cons (qe_var (i := 2) rfl (by first | exact .inl rfl | exact .inr (.inl rfl) | exact .inr (.inr rfl))) (qa_cons (qe_var (i := 3) rfl (by first | exact .inl rfl | exact .inr (.inl rfl) | exact .inr (.inr rfl))) (qa_cons (qe_var (i := 4) rfl (by first | exact .inl rfl | exact .inr (.inl rfl) | exact .inr (.inr rfl))) (qa_cons (qe_var (i := 6) rfl (by first | exact .inl rfl | exact .inr (.inl rfl) | exact .inr (.inr rfl))) qa_nil)))))))
      (qss_cons (qs_set (i := 8) nd rfl (by first | exact .inl rfl | exact .inr rfl) (qe_callK K c_read_journal hr (by decide) rfl (qa_cons (qe_var (i := 1) rfl (by first | exact .inl rfl | exact .inr (.inl rfl) | exact .inr (.inr rfl))) (qa_cons (qe_var (i := 3) rfl (by first | exact .inl rfl | exact .inr (.inl rfl) | exact .inr (.inr rfl))) (qa_cons (qe_var (i := 4) rfl (by first | exact .inl rfl | exact .inr (.inl rfl) | exact .inr (.inr rfl))) (qa_cons (qe_var (i := 5) rfl (by first | exact .inl rfl | exact .inr (.inl rfl) | exact .inr (.inr rfl))) qa_nil))))))
      (qss_cut (qs_if (qt_notN (qe_var (i := 8) rfl (by first | exact .inl rfl | exact .inr (.inl rfl) | exact .inr (.inr rfl))) qe_non) (qss_one (qs_expr (qe_mt m_Guard_go_on hr (by decide) (qe_var (i := 7) rfl (by first | exact .inl rfl | exact .inr (.inl rfl) | exact .inr (.inr rfl))) (qa_cons (qe_var (i := 8) rfl (by first | exact .inl rfl | exact .inr (.inl rfl) | exact .inr (.inr rfl))) (qa_cons (qe_var (i := 5) rfl (by first | exact .inl rfl | exact .inr (.inl rfl) | exact .inr (.inr rfl))) qa_nil))))) qss_nil)
      (qss_one (qs_ret (qe_var (i := 7) rfl (by first | exact .inl rfl | exact .inr (.inl rfl) | exact .inr (.inr rfl)))))))), fun vs M Q h => ?_⟩
  obtain ⟨D, k, ns, l, first, rfl, ok, hk, hn, hst, hf, hl, hc, kQ⟩ := h
  walk_at "s"
  refine ⟨rfl, fun g dx M1 n1 l1 m1 => ⟨M, g, dx, D, k, ns, first, rfl, l1, n1, m1, hk, hn, hst, hf, fun M2 h2 => ⟨rfl, ?_⟩⟩⟩
  refine ⟨D, l, rfl, ok, hl, hc, ?_⟩
  refine ⟨fun ρ M' => nth ρ 7 = some (.ref g) ∧ GuNew C_Guard C_Sitting M M' g D (jOf D l first).1 (jOf D l first).2, ?_, ?_⟩
  · unfold jOf
    cases hj : readJ D l with
    | none => exact ⟨fun h => (by cases h), fun _ => ⟨rfl, h2⟩⟩
    | some q =>
      obtain ⟨r, j⟩ := q
      have h2' := h2
      obtain ⟨l0, n0, dy, st, ns0, hgs, hm, hs⟩ := h2
      exact ⟨fun _ => ⟨dy, _, hm, rfl, M, g, D, _, r, _, j, l, rfl, h2', by omega, readJ_pre hj, fun M' h' => ⟨rfl, h'⟩⟩, fun h => (by cases h)⟩
  · rintro ρ M' ⟨hρ, l0, n0, dy, st, ns0, hgs, hm, hs⟩
    rw [hρ]
    exact ⟨M', Le.refl, kQ g M' ⟨l0, n0, dy, st, ns0, hgs, hm, hs⟩⟩
end
end CR

set_option Elab.async false
set_option linter.all false
set_option maxRecDepth 100000
set_option maxHeartbeats 4000000
set_option exponentiation.threshold 300000
namespace CR
open PySem PySem.Spec L2
local macro_rules | `(tactic| walk_at "s") => `(tactic| dsimp only [fRet, fSeq, fCut, fAsg, fDrop, fIfS, fNext, fBreak, fCont, fVar, fC, fOp, fCall, fCons, fNil, fCB, fBMS, fBML, fTup, fLst, fTest, fNot, fAnd, fOr, fAndV, fOrV, fNotV, fIf, fNeg, fChain, fGName, fGTup, fGCons, fGNil, fAugI, fSl, fPart, fNoPart, fRevL, fLstRg, fRepl, fFld, fSFld, fMeth, fProp, fPropSet, fMake, fMakeV, fCMeth, fGSub, fAugSub, fISeq, fIStr, fIRng1, fIRng2, fFor, fWhile, fLc, fYes, fIsi, fOf, fSeqX, fIfX, fRaise, fSetMX, fTry, fFldX, fIsX, fCMK, fMD, nth, lawS, startP, setS, clrS, wipeS, fnEnds, pI0, pI])
local macro_rules | `(tactic| walk_at "d") => `(tactic| try dsimp only)
section
variable {P : Program} {w : World} {K : PySem.W.Frag} {mg : Str → Option Value} {base : Heap}
open SX
def Plain (j : List Nat) : Prop := ∀ c ∈ j, c < 1114112
theorem Plain.app {a b : List Nat} (h : Plain a) (g : Plain b) : Plain (a ++ b) := fun c hc => by
  rcases List.mem_append.mp hc with hc | hc
  · exact h c hc
  · exact g c hc
theorem plain_nil : Plain [] := fun c hc => by cases hc
theorem plain_num (n : Nat) : Plain (TL.numL n) := fun c hc => by
  have := TL.numL_digits n c hc
  omega
theorem plain_lit {l : List Nat} (h : l.all (fun c => decide (c < 1114112)) = true) : Plain l := fun c hc => of_decide_eq_true (List.all_eq_true.mp h c hc)
theorem plain_line {w : List Nat} (h : Plain w) : Plain (lineL w) := ((h.app (plain_lit (by decide))).app (plain_num _)).app (plain_lit (by decide))
theorem plain_lot (n : Nat) : Plain (lineL (lotW n)) := plain_line ((plain_lit (by decide)).app ((plain_lit (by decide)).app (plain_num _)))
theorem plain_ask (x n d : Nat) : Plain (lineL (askW x n d)) := plain_line ((plain_lit (by decide)).app ((plain_lit (by decide)).app ((plain_num _).app ((plain_lit (by decide)).app (((plain_num _).app (plain_lit (by decide))).app (plain_num _))))))
theorem plain_say (x n d : Nat) : Plain (lineL (sayW x n d)) := plain_line ((plain_lit (by decide)).app ((plain_lit (by decide)).app ((plain_num _).app ((plain_lit (by decide)).app ((plain_num _).app ((plain_lit (by decide)).app (plain_num _)))))))
theorem readOn_plain {D : Dk} {r r' : Rd} {l : List Nat} (h : readOn D r l = some r') : Plain l := by
  unfold readOn at h
  split at h
  · unfold askOn at h
    split at h
    · dsimp only at h
      split at h
      · cases h
      · split at h
        · rename_i e
          rw [e]
          exact plain_ask _ _ _
        · cases h
    · cases h
  · unfold sayOn at h
    split at h
    · cases h
    · split at h
      · dsimp only at h
        split at h
        · split at h
          · rename_i e
            rw [e]
            exact plain_say _ _ _
          · cases h
        · cases h
      · cases h
theorem readAll_plain (D : Dk) : ∀ (ls : List (List Nat)) (r : Rd), Plain (readAll D r ls).2.flatten
  | [], r => plain_nil
  | l :: ls, r => by
    cases e : readOn D r l with
    | none =>
      rw [readAll_none e]
      exact plain_nil
    | some r' =>
      rw [readAll_some e]
      show Plain (l :: (readAll D r' ls).2).flatten
      rw [List.flatten_cons]
      exact (readOn_plain e).app (readAll_plain D ls r')
theorem readJ_plain {D : Dk} {l : List Nat} {r : Rd} {j : List Nat} (h : readJ D l = some (r, j)) : Plain j := by
  unfold readJ at h
  cases hw : wholeL l with
  | nil => rw [hw] at h; cases h
  | cons l0 ls =>
    rw [hw] at h
    dsimp only at h
    cases hb : beginN D l0 with
    | none => rw [hb] at h; cases h
    | some n =>
      rw [hb] at h
      dsimp only at h
      cases h
      refine Plain.app ?_ (readAll_plain D ls (rd0 n))
      unfold beginN at hb
      split at hb
      · rename_i e
        rw [e.2]
        exact plain_lot _
      · cases hb
theorem Plain.ok {j : List Nat} (h : Plain j) : PyData.strOk (S j) = true := by
  unfold PyData.strOk S
  rw [← Array.all_toList]
  exact List.all_eq_true.mpr fun c hc => decide_eq_true (h c hc)
theorem GuAt.le {CG CS : Addr} {M M' : Mp} {g : Addr} {D : Dk} {r : Rd} {j : List Nat} (h : GuAt CG CS M g D r j) (l : Le M M') : GuAt CG CS M' g D r j := by
  obtain ⟨dx, st, hm, dy, hs⟩ := h
  exact ⟨dx, st, l _ _ hm, dy, l _ _ hs⟩
def sp_shows (CG CS : Addr) : PSp := fun ps M Q => ∃ g D r j k, ps = [.ref g, lawP5 r j] ∧ GuAt CG CS M g D r j ∧ r.Ok D k ∧ k ≤ 90 ∧ Int.gcd r.n r.d = 1 ∧ Plain j ∧ Q (.bl true) M
theorem sp_shows_len (CG CS : Addr) : ∀ vs M Q, sp_shows CG CS vs M Q → vs.length = 2 := fun vs M Q ⟨a, b, c, d, e, e', _⟩ => by rw [e']; rfl
abbrev s__law_shows : Stmt := top 152
theorem sc__law_shows : FnScope ["guard", "held_v", "step"] ["guard", "held_v"] (defScope s__law_shows) := ⟨rfl, rfl, rfl, by decide +kernel, rfl, by decide +kernel, by decide +kernel⟩
theorem c__law_shows {C_Guard : Addr} {C_Sitting : Addr} (F : Std K mg "_law_shows" s__law_shows) (B : BFree mg) (p_Guard_journal : PropCal P w K mg base 1 C_Guard "journal" (toSp K (sp_gjournal C_Guard C_Sitting))) (p_Guard_lot : PropCal P w K mg base 3 C_Guard "lot" (toSp K (sp_glot C_Guard C_Sitting))) (p_Guard_mode : PropCal P w K mg base 3 C_Guard "mode" (toSp K (sp_gmode C_Guard C_Sitting))) (p_Guard_spent : PropCal P w K mg base 1 C_Guard "spent" (toSp K (sp_gspent C_Guard C_Sitting))) (p_Guard_talk : PropCal P w K mg base 3 C_Guard "talk" (toSp K (sp_gtalk C_Guard C_Sitting))) (c__law_is_frac : C8.Cal P w K mg base 2 "_law_is_frac" (toSp K sp_isfrac) []) (c__law_is_int : C8.Cal P w K mg base 1 "_law_is_int" (toSp K sp_isint) []) (c__law_is_ints : C8.Cal P w K mg base 2 "_law_is_ints" (toSp K sp_isints) []) (c__law_is_rows : C8.Cal P w K mg base 1 "_law_is_rows" (toSp K sp_isrows) []) : C8.Cal P w K mg base 5 "_law_shows" (toSp K (sp_shows C_Guard C_Sitting)) [] := by
  refine F.cal sc__law_shows (sp_shows_len C_Guard C_Sitting) (fun _ _ _ _ _ _ us hl => match us, hl with | [_, _], _ => rfl) (fun f cdv A outer s H E hr => ?_)
  have nd := sc__law_shows.nd
  refine ⟨_, _, (qss_cons (qs_if (QW.t (qw_or (qt_not (qt_val (qe_callK K c__law_is_int hr (by decide) rfl (qa_cons (qe_prop p_Guard_mode hr (by decide) (qe_var (i := 0) rfl (by first | exact .inl rfl | exact .inr (.inl rfl) | exact .inr (.inr rfl)))) qa_nil)))) (qw_or (qt_not (qt_val (qe_callK K c__law_is_int hr (by decide) rfl (qa_cons (qe_prop p_Guard_lot hr (by decide) (qe_var (i := 0) rfl (by first | exact .inl rfl | exact .inr (.inl rfl) | exact .inr (.inr rfl)))) qa_nil)))) (qw_or1 (qt_not (qt_val (qe_callK K c__law_is_rows hr (by decide) rfl (qa_cons (qe_prop p_Guard_talk hr (by decide) (qe_var (i := 0) rfl (by first | exact .inl rfl | exact .inr (.inl rfl) | exact .inr (.inr rfl)))) (qa_cons qe_int qa_nil))))))))) (qss_one (qs_ret qe_bl)) qss_nil)
      (qss_cons (qs_if (QW.t (qw_or (qt_not (qt_val (qe_callK K c__law_is_frac hr (by decide) rfl (qa_cons (qe_prop p_Guard_spent hr (by decide) (qe_var (i := 0) rfl (by first | exact .inl rfl | exact .inr (.inl rfl) | exact .inr (.inr rfl)))) qa_nil)))) (qw_or1 (qt_not (qt_val (qe_isiK K kit_str rfl B.f_isinstance (by decide +kernel) rfl B.f_str (by decide +kernel) (qe_prop p_Guard_journal hr (by decide) (qe_var (i := 0) rfl (by first | exact .inl rfl | exact .inr (.inl rfl) | exact .inr (.inr rfl)))))))))) (qss_one (qs_ret qe_bl)) qss_nil)
      (qss_cons (qs_if (qt_not (qt_val (qe_callBK K ac_all (cr_all rfl) rfl B.f_all (by decide +kernel) (qa_cons (qe_lc (i := 2) rfl nd (qi_seqK K (qe_prop p_Guard_talk hr (by decide) (qe_var (i := 0) rfl (by first | exact .inl rfl | exact .inr (.inl rfl) | exact .inr (.inr rfl))))) (blkOk_by (by kernel_rfl)) (fun _ _ _ _ _ => pg_name (i := 2) nd rfl (Or.inl rfl)) (fun _ _ _ _ _ => qts_nil) (fun _ _ _ _ _ => (qe_callK K c__law_is_ints hr (by decide) rfl (qa_cons (qe_var (i := 2) rfl (by first | exact .inl rfl | exact .inr (.inl rfl) | exact .inr (.inr rfl))) qa_nil)))) qa_nil)))) (qss_one (qs_ret qe_bl)) qss_nil)
      (qss_one (qs_ret (qe_eqK K hr.units (qe_tup (qa_cons (qe_prop p_Guard_mode hr (by decide) (qe_var (i := 0) rfl (by first | exact .inl rfl | exact .inr (.inl rfl) | exact .inr (.inr rfl)))) (qa_cons (qe_prop p_Guard_lot hr (by decide) (qe_var (i := 0) rfl (by first | exact .inl rfl | exact .inr (.inl rfl) | exact .inr (.inr rfl)))) (qa_cons (qe_prop p_Guard_talk hr (by decide) (qe_var (i := 0) rfl (by first | exact .inl rfl | exact .inr (.inl rfl) | exact .inr (.inr rfl)))) (qa_cons (qe_prop p_Guard_spent hr (by decide) (qe_var (i := 0) rfl (by first | exact .inl rfl | exact .inr (.inl rfl) | exact .inr (.inr rfl)))) (qa_cons (qe_prop p_Guard_journal hr (by decide) (qe_var (i := 0) rfl (by first | exact .inl rfl | exact .inr (.inl rfl) | exact .inr (.inr rfl)))) qa_nil)))))) (qe_var (i := 1) rfl (by first | exact .inl rfl | exact .inr (.inl rfl) | exact .inr (.inr rfl))) (nomark _))))))), fun vs M Q h => ?_⟩
  obtain ⟨g, D, r, j, k, rfl, hg, hr, hk, hgc, hp, kQ⟩ := h
  obtain ⟨dx, st, hm, hs⟩ := id hg
  have htk : r.talk.length ≤ 90 := by have := hr.tk; omega
  have eG : Gs r.talk = .tup ((r.talk.map fun g => [I g.1, I g.2]).map CR.P.tup) := by
    unfold Gs
    rw [List.map_map]
    rfl
  have hrows : (r.talk.map fun g => [I g.1, I g.2]).all (fun xs => decide ((xs.length : Int) = 2)) = true := List.all_eq_true.mpr fun x hx => by
    obtain ⟨g, _, rfl⟩ := List.mem_map.mp hx
    rfl
  walk_at "s"
  refine ⟨dx, _, hm, g, D, r, j, rfl, hg, _, "int", rfl, rfl, fun _ => ?_, fun h => absurd h (by decide)⟩
  refine ⟨dx, _, hm, g, D, r, j, rfl, hg, _, "int", rfl, rfl, fun _ => ?_, fun h => absurd h (by decide)⟩
  refine ⟨dx, _, hm, g, D, r, j, rfl, hg, r.talk.map fun g => [I g.1, I g.2], 2, by rw [eG], by rw [List.length_map]; omega, ?_⟩
  rw [hrows]
  refine ⟨fun _ => ?_, fun h => (by cases h)⟩
  refine ⟨dx, _, hm, g, D, r, j, rfl, hg, r.n, r.d, rfl, ?_⟩
  have hd1 : decide (1 ≤ r.d) = true := decide_eq_true (by have := hr.bt.2.1; omega)
  have hg1 : decide ((Int.gcd r.n r.d : Int) = 1) = true := decide_eq_true (by rw [hgc]; rfl)
  rw [hd1, hg1]
  refine ⟨fun _ => ?_, fun h => (by cases h)⟩
  refine ⟨dx, _, hm, g, D, r, j, rfl, hg, ?_⟩
  refine ⟨fun _ => ?_, fun h => absurd h (by decide)⟩
  refine ⟨dx, _, hm, g, D, r, j, rfl, hg, ?_⟩
  refine lc_seqM (xs := r.talk.map fun g => .tup [I g.1, I g.2]) (fun _ => .bl true) (szl _ (by rw [List.length_map]; omega)) (fun i x M2 e hx l2 => ?_) (fun b M2 nb l2 m2 => ?_)
  · obtain ⟨g, _, rfl⟩ := List.mem_map.mp hx
    walk_at "s"
    refine ⟨_, rfl, fun x hx => ?_, by simp, Le.refl, fun _ _ _ => tsnoc e rfl⟩
    simp only [List.mem_cons, List.not_mem_nil, or_false] at hx
    rcases hx with rfl | rfl <;> exact okd_int.1
  · have m3 : M2 b = some (.lst ((r.talk.map fun _ => true).map CR.P.bl)) := by rw [List.map_map] at m2 ⊢; exact m2
    refine all_l m3 ?_
    have ha : (r.talk.map fun _ => true).all id = true := List.all_eq_true.mpr fun x hx => by
      obtain ⟨_, _, rfl⟩ := List.mem_map.mp hx
      rfl
    rw [ha]
    have hm2 := l2 _ _ hm
    have hg2 := hg.le l2
    refine ⟨fun _ => ?_, fun h => (by cases h)⟩
    refine ⟨dx, _, hm2, g, D, r, j, rfl, hg2, dx, _, hm2, g, D, r, j, rfl, hg2, dx, _, hm2, g, D, r, j, rfl, hg2, dx, _, hm2, g, D, r, j, rfl, hg2, dx, _, hm2, g, D, r, j, rfl, hg2, ?_⟩
    refine eq_self (ps := [I r.mode, I r.lot, Gs r.talk, fr r.n r.d, T j]) (k := 3) (okd_tup fun p hp' => ?_) (by decide) ⟨M, l2, kQ⟩
    simp only [List.mem_cons, List.not_mem_nil, or_false] at hp'
    rcases hp' with rfl | rfl | rfl | rfl | rfl
    · exact okd_int.up (by decide)
    · exact okd_int.up (by decide)
    · exact okd_Gs _
    · exact (okd_fr _ _).up (by decide)
    · exact (okd_str hp.ok).up (by decide)
end
end CR

set_option Elab.async false
set_option linter.all false
set_option maxRecDepth 100000
set_option maxHeartbeats 4000000
set_option exponentiation.threshold 300000
namespace CR
open PySem PySem.Spec L2
local macro_rules | `(tactic| walk_at "s") => `(tactic| dsimp only [fRet, fSeq, fCut, fAsg, fDrop, fIfS, fNext, fBreak, fCont, fVar, fC, fOp, fCall, fCons, fNil, fCB, fBMS, fBML, fTup, fLst, fTest, fNot, fAnd, fOr, fAndV, fOrV, fNotV, fIf, fNeg, fChain, fGName, fGTup, fGCons, fGNil, fAugI, fSl, fPart, fNoPart, fRevL, fLstRg, fRepl, fFld, fSFld, fMeth, fProp, fPropSet, fMake, fMakeV, fCMeth, fGSub, fAugSub, fISeq, fIStr, fIRng1, fIRng2, fFor, fWhile, fLc, fYes, fIsi, fOf, fSeqX, fIfX, fRaise, fSetMX, fTry, fFldX, fIsX, fCMK, fMD, nth, lawS, startP, setS, clrS, wipeS, fnEnds, pI0, pI])
local macro_rules | `(tactic| walk_at "d") => `(tactic| try dsimp only)
section
variable {P : Program} {w : World} {K : PySem.W.Frag} {mg : Str → Option Value} {base : Heap}
open SX
theorem sum_lt {ns : List Nat} {b : Nat} : ∀ {k : Nat}, ns.length ≤ k → (∀ n ∈ ns, n < b) → ns.sum ≤ k * b := by
  induction ns with
  | nil => intro k _ _; simp
  | cons n r ih =>
    intro k hk h
    rw [List.length_cons] at hk
    cases k with
    | zero => omega
    | succ k =>
      have h1 := ih (k := k) (by omega) fun m hm => h m (List.mem_cons_of_mem _ hm)
      have h2 := h n (List.mem_cons_self ..)
      rw [List.sum_cons, Nat.succ_mul]
      omega
theorem sum_pos {ns : List Nat} (h0 : 0 < ns.length) (h : ∀ n ∈ ns, 0 < n) : 0 < ns.sum := by
  cases ns with
  | nil => simp at h0
  | cons n r =>
    have := h n (List.mem_cons_self ..)
    rw [List.sum_cons]
    omega
/-! ### whole lines -/
def IsLn (l : List Nat) : Prop := ∃ w, l = w ++ [10] ∧ 10 ∉ w
theorem spl_ln : ∀ (w acc t : List Nat), 10 ∉ w → TL.spl [10] 0 acc (w ++ 10 :: t) = (acc ++ w) :: TL.spl [10] 0 [] t
  | [], acc, t, _ => by
    have h' : TL.pre [10] (10 :: t) = true := by rw [pre_one]; simp
    rw [List.nil_append, TL.spl_hit h', List.append_nil]
    rfl
  | c :: w, acc, t, h => by
    have hc : c ≠ 10 := fun e => h (by rw [e]; exact List.mem_cons_self ..)
    have h' : TL.pre [10] (c :: (w ++ 10 :: t)) = false := by rw [pre_one]; simpa using hc
    rw [List.cons_append, TL.spl_miss h', spl_ln w _ t fun e => h (List.mem_cons_of_mem _ e)]
    simp
theorem spl_no : ∀ (t acc : List Nat), 10 ∉ t → TL.spl [10] 0 acc t = [acc ++ t]
  | [], acc, _ => by rw [TL.spl_nil, List.append_nil]
  | c :: t, acc, h => by
    have hc : c ≠ 10 := fun e => h (by rw [e]; exact List.mem_cons_self ..)
    have h' : TL.pre [10] (c :: t) = false := by rw [pre_one]; simpa using hc
    rw [TL.spl_miss h', spl_no t _ fun e => h (List.mem_cons_of_mem _ e)]
    simp
theorem lines_flat : ∀ (ls : List (List Nat)) (t : List Nat), (∀ l ∈ ls, IsLn l) → 10 ∉ t → wholeL (ls.flatten ++ t) = ls ∧ (lines (ls.flatten ++ t)).length = ls.length + 1
  | [], t, _, ht => by
    have e : lines (([] : List (List Nat)).flatten ++ t) = [t] := spl_no t [] ht
    unfold wholeL
    rw [e]
    exact ⟨rfl, rfl⟩
  | l :: ls, t, h, ht => by
    obtain ⟨w, rfl, hw⟩ := h l (List.mem_cons_self ..)
    obtain ⟨i1, i2⟩ := lines_flat ls t (fun x hx => h x (List.mem_cons_of_mem _ hx)) ht
    have e : lines (((w ++ [10]) :: ls).flatten ++ t) = w :: lines (ls.flatten ++ t) := by
      show TL.spl [10] 0 [] _ = _
      rw [List.flatten_cons, List.append_assoc, List.append_assoc, List.singleton_append, spl_ln w [] _ hw]
      rfl
    have hne : lines (ls.flatten ++ t) ≠ [] := spl_ne 10 _ _
    unfold wholeL at i1 ⊢
    rw [e]
    refine ⟨?_, by rw [List.length_cons, i2, List.length_cons]⟩
    rw [List.dropLast_cons_of_ne_nil hne, List.map_cons, i1]
theorem num10 (n : Nat) : 10 ∉ TL.numL n := TL.numL_free (by omega)
theorem ln_line {w : List Nat} (h : 10 ∉ w) : IsLn (lineL w) := by
  refine ⟨w ++ [32, 35] ++ TL.numL (sealN w), rfl, ?_⟩
  simp only [List.mem_append, not_or]
  exact ⟨⟨h, by decide⟩, num10 _⟩
theorem ln_lot (n : Nat) : IsLn (lineL (lotW n)) := ln_line (by
  unfold lotW
  simp only [List.mem_append, not_or]
  exact ⟨by decide, by decide, num10 _⟩)
theorem ln_ask (x n d : Nat) : IsLn (lineL (askW x n d)) := ln_line (by
  unfold askW
  simp only [List.mem_append, not_or]
  exact ⟨by decide, by decide, num10 _, by decide, ⟨num10 _, by decide⟩, num10 _⟩)
theorem ln_say (x n d : Nat) : IsLn (lineL (sayW x n d)) := ln_line (by
  unfold sayW
  simp only [List.mem_append, not_or]
  exact ⟨by decide, by decide, num10 _, by decide, num10 _, by decide, num10 _⟩)
theorem ln_len {w : List Nat} : (lineL w).length ≤ w.length + 7 := by
  have := seal_len w
  unfold lineL
  simp only [List.length_append, List.length_cons, List.length_nil]
  omega
/-- a proper part of a line has no end -/
theorem ln_take {l : List Nat} (h : IsLn l) {k : Nat} (hk : k < l.length) : 10 ∉ l.take k := by
  obtain ⟨w, rfl, hw⟩ := h
  rw [List.length_append] at hk
  have hk' : k ≤ w.length := by
    have : ([10] : List Nat).length = 1 := rfl
    omega
  rw [List.take_append_of_le_length hk']
  exact fun hm => hw (List.mem_of_mem_take hm)
theorem readAll_app (D : Dk) : ∀ (ls ms : List (List Nat)) (r r' : Rd), readAll D r ls = (r', ls) → readAll D r (ls ++ ms) = ((readAll D r' ms).1, ls ++ (readAll D r' ms).2)
  | [], ms, r, r', h => by
    have : r = r' := congrArg Prod.fst h
    subst this
    rfl
  | l :: ls, ms, r, r', h => by
    cases e : readOn D r l with
    | none =>
      rw [readAll_none e] at h
      have := congrArg Prod.snd h
      cases this
    | some r2 =>
      rw [readAll_some e] at h
      have h1 : (readAll D r2 ls).1 = r' := congrArg Prod.fst h
      have h2 : l :: (readAll D r2 ls).2 = l :: ls := congrArg Prod.snd h
      have h3 : (readAll D r2 ls).2 = ls := (List.cons.inj h2).2
      have h4 : readAll D r2 ls = (r', ls) := Prod.ext h1 h3
      have h5 := readAll_app D ls ms r2 r' h4
      rw [List.cons_append, readAll_some e, h5]
      rfl
theorem readAll_one {D : Dk} {r r' : Rd} {l : List Nat} (h : readOn D r l = some r') : readAll D r [l] = (r', [l]) := by
  rw [readAll_some h]
  rfl
/-! ### what a call does -/
def rowOf (D : Dk) (m x : Nat) : List Nat := match (qsOf D m)[x]? with
  | some q => q.rows.getD D.st []
  | none => []
def drawnOf (D : Dk) (m x : Nat) : Bool := match (qsOf D m)[x]? with
  | some q => q.drawn
  | none => false
def payOf (D : Dk) (r : Rd) (x : Nat) : Int × Int := pay ((csOf D r.mode).getD x (1, 1)) r.n r.d
def leftOf (D : Dk) (r : Rd) : CR.P := nfr (D.bn * r.d) (D.bd * r.n)
def ansN (D : Dk) (r : Rd) (x n : Nat) : Nat := if drawnOf D r.mode x = true then (rowOf D r.mode x).getD r.lot 0 else numOf (rowOf D r.mode x) n
def goN (D : Dk) (r : Rd) (x n : Nat) : Nat × Nat := (gsOf D r.mode x).getD (ansN D r x n) (0, 0)
def hidN (D : Dk) (r : Rd) (x n m : Nat) : Nat := if (goN D r x n).2 = 1 then numOf D.h.lots m else r.lot
def askR (D : Dk) (r : Rd) (x : Nat) : Rd := { r with n := (payOf D r x).1, d := (payOf D r x).2, wait := some x }
def askT (D : Dk) (r : Rd) (x : Nat) : List Nat := lineL (askW x (payOf D r x).1.toNat (payOf D r x).2.toNat)
def sayR (D : Dk) (r : Rd) (x n m : Nat) : Rd := ⟨hidN D r x n m, (goN D r x n).1, (payOf D r x).1, (payOf D r x).2, r.talk ++ [(x, ansN D r x n)], none⟩
def sayT (D : Dk) (r : Rd) (x n m : Nat) : List Nat := lineL (sayW (ansN D r x n) (goN D r x n).1 (hidN D r x n m))
inductive Out where
  | bad
  | left
  | told
def outOf (D : Dk) (r : Rd) (x : Int) : Out :=
  if 0 ≤ x ∧ x < (qsOf D r.mode).length then
    if D.bn * (payOf D r x.toNat).2 < (payOf D r x.toNat).1 * D.bd then .left else .told
  else .bad
/-- a call in bounds -/
structure CallOk (D : Dk) (r : Rd) (x : Int) (n m : Nat) : Prop where
  hm : m < D.h.lots.sum
  hn : 0 ≤ x → x < (qsOf D r.mode).length → drawnOf D r.mode x.toNat = false → n < (rowOf D r.mode x.toNat).sum
  hb : n < 2 ^ 300
/-- a standing and its journal -/
structure Jn (D : Dk) (k : Nat) (r : Rd) (j : List Nat) : Prop where
  ok : r.Ok D k
  g : Int.gcd r.n r.d = 1
  nb : r.n.natAbs < 2 ^ 2000
  pl : Plain j
  ln : j.length ≤ 13000 * (k + 1)
  js : ∃ n ls, n < D.h.lots.length ∧ (∀ l ∈ ls, IsLn l) ∧ j = ((lineL (lotW n)) :: ls).flatten ∧ ls.length ≤ k ∧ readAll D (rd0 n) ls = (r, ls)
section
variable {D : Dk} (ok : D.Ok)
include ok
theorem lots_le : D.h.lots.length < 10 := by
  obtain ⟨⟨k, hk⟩, _⟩ := ok.h
  exact hk.ll.2
theorem begin_lot {n : Nat} (h : n < D.h.lots.length) : beginN D (lineL (lotW n)) = some n := by
  have := lots_le ok
  have e := field_lot (n := n) (by omega)
  unfold beginN
  rw [e]
  rw [if_pos ⟨⟨by omega, by omega⟩, by rw [Int.toNat_natCast]⟩, Int.toNat_natCast]
theorem Jn.read {k : Nat} {r : Rd} {j t : List Nat} (h : Jn D k r j) (ht : 10 ∉ t) : readJ D (j ++ t) = some (r, j) ∧ (lines (j ++ t)).length ≤ k + 2 := by
  obtain ⟨n, ls, h1, h2, rfl, h3, h4⟩ := h.js
  obtain ⟨w1, w2⟩ := lines_flat (lineL (lotW n) :: ls) t (fun l hl => by
    rcases List.mem_cons.mp hl with rfl | hl
    · exact ln_lot n
    · exact h2 l hl) ht
  refine ⟨?_, by rw [w2, List.length_cons]; omega⟩
  unfold readJ
  rw [w1]
  dsimp only
  rw [begin_lot ok h1]
  dsimp only
  rw [h4]
  rfl
theorem Jn.read0 {k : Nat} {r : Rd} {j : List Nat} (h : Jn D k r j) : readJ D j = some (r, j) ∧ (lines j).length ≤ k + 2 := by
  have := h.read ok (t := []) (by simp)
  rw [List.append_nil] at this
  exact this
theorem Jn.begin {n : Nat} (h : n < D.h.lots.length) : Jn D 0 (rd0 n) (lineL (lotW n)) := by
  have hl := lots_le ok
  have l1 := nL_le (lt14 (n := n) (by omega))
  refine ⟨rd0_ok ok h, by show Int.gcd 1 1 = 1; decide, Nat.lt_of_lt_of_le (m := 2 ^ 1) (show (1 : Int).natAbs < 2 ^ 1 by decide) (Nat.pow_le_pow_right (by decide) (by decide)), plain_lot n, ?_, n, [], h, (fun l hl => by cases hl), by simp, Nat.le_refl _, rfl⟩
  have := ln_len (w := lotW n)
  rw [lotW_len] at this
  omega
/-- one line more -/
theorem Jn.snoc {k : Nat} {r r' : Rd} {j l : List Nat} (h : Jn D k r j) (hl : IsLn l) (hp : Plain l) (hn : l.length ≤ 13000) (hr : readOn D r l = some r') (hb : r'.n.natAbs < 2 ^ 2000) : Jn D (k + 1) r' (j ++ l) := by
  obtain ⟨n, ls, h1, h2, rfl, h3, h4⟩ := h.js
  refine ⟨readOn_ok ok h.ok hr, readOn_gcd ok h.ok h.g hr, hb, h.pl.app hp, ?_, n, ls ++ [l], h1, app_ok h2 (fun x hx => by rw [List.mem_singleton.mp hx]; exact hl), ?_, ?_, ?_⟩
  · have := h.ln
    rw [List.length_append]
    omega
  · simp
  · rw [List.length_append]
    show ls.length + 1 ≤ _
    omega
  · rw [readAll_app D ls [l] (rd0 n) r h4, readAll_one hr]
end
end
end CR

set_option Elab.async false
set_option linter.all false
set_option maxRecDepth 100000
set_option maxHeartbeats 4000000
set_option exponentiation.threshold 300000
namespace CR
open PySem PySem.Spec L2
local macro_rules | `(tactic| walk_at "s") => `(tactic| dsimp only [fRet, fSeq, fCut, fAsg, fDrop, fIfS, fNext, fBreak, fCont, fVar, fC, fOp, fCall, fCons, fNil, fCB, fBMS, fBML, fTup, fLst, fTest, fNot, fAnd, fOr, fAndV, fOrV, fNotV, fIf, fNeg, fChain, fGName, fGTup, fGCons, fGNil, fAugI, fSl, fPart, fNoPart, fRevL, fLstRg, fRepl, fFld, fSFld, fMeth, fProp, fPropSet, fMake, fMakeV, fCMeth, fGSub, fAugSub, fISeq, fIStr, fIRng1, fIRng2, fFor, fWhile, fLc, fYes, fIsi, fOf, fSeqX, fIfX, fRaise, fSetMX, fTry, fFldX, fIsX, fCMK, fMD, nth, lawS, startP, setS, clrS, wipeS, fnEnds, pI0, pI])
local macro_rules | `(tactic| walk_at "d") => `(tactic| try dsimp only)
section
variable {P : Program} {w : World} {K : PySem.W.Frag} {mg : Str → Option Value} {base : Heap}
open SX
theorem told_iff {D : Dk} {r : Rd} {x : Int} : outOf D r x = .told ↔ (0 ≤ x ∧ x < (qsOf D r.mode).length) ∧ ¬ D.bn * (payOf D r x.toNat).2 < (payOf D r x.toNat).1 * D.bd := by
  unfold outOf
  split
  · split
    · rename_i h
      exact ⟨fun h => (by cases h), fun g => absurd h g.2⟩
    · rename_i h1 h2
      exact ⟨fun _ => ⟨h1, h2⟩, fun _ => rfl⟩
  · rename_i h
    exact ⟨fun h => (by cases h), fun g => absurd g.1 h⟩
theorem left_iff {D : Dk} {r : Rd} {x : Int} : outOf D r x = .left ↔ (0 ≤ x ∧ x < (qsOf D r.mode).length) ∧ D.bn * (payOf D r x.toNat).2 < (payOf D r x.toNat).1 * D.bd := by
  unfold outOf
  split
  · split
    · rename_i h1 h
      exact ⟨fun _ => ⟨h1, h⟩, fun _ => rfl⟩
    · rename_i h1 h2
      exact ⟨fun h => (by cases h), fun g => absurd g.2 h2⟩
  · rename_i h
    exact ⟨fun h => (by cases h), fun g => absurd g.1 h⟩
theorem bad_iff {D : Dk} {r : Rd} {x : Int} : outOf D r x = .bad ↔ ¬ (0 ≤ x ∧ x < (qsOf D r.mode).length) := by
  unfold outOf
  split
  · rename_i h
    split
    · exact ⟨fun h => (by cases h), fun g => absurd h g⟩
    · exact ⟨fun h => (by cases h), fun g => absurd h g⟩
  · rename_i h
    exact ⟨fun _ => h, fun _ => rfl⟩
theorem pay_bound {a b c e : Int} (hb : BudOk b c) (h : ¬ b * e < a * c) (ha : 0 < a) (he : 0 < e) (hd : e.natAbs < 2 ^ 800) : a.natAbs < 2 ^ 2000 := by
  have h1 : a * c ≤ b * e := by omega
  have h2 : a ≤ a * c := by
    have := Int.mul_le_mul_of_nonneg_left (show (1 : Int) ≤ c by have := hb.2.1; omega) (show 0 ≤ a by omega)
    omega
  have h3 : (b * e).natAbs < 2 ^ (1000 + 800) := mul_lt hb.1 hd
  have h4 : (2 : Nat) ^ (1000 + 800) ≤ 2 ^ 2000 := Nat.pow_le_pow_right (by decide) (by decide)
  omega
section
variable {D : Dk} (ok : D.Ok)
include ok
theorem quest_st {r : Rd} {k : Nat} {x : Nat} (hr : r.Ok D k) (hx : x < (qsOf D r.mode).length) : ∃ q row, (qsOf D r.mode)[x]? = some q ∧ q.rows[D.st]? = some row ∧ rowOf D r.mode x = row ∧ drawnOf D r.mode x = q.drawn ∧ gsOf D r.mode x = q.goes ∧ row.length < 100 ∧
    (q.drawn = true → ∃ a, row[r.lot]? = some a ∧ row.getD r.lot 0 = a ∧ a < q.goes.length) ∧ (q.drawn = false → row.length = q.goes.length ∧ 0 < row.sum ∧ row.sum < 2 ^ 300) ∧ (0 < q.goes.length ∧ q.goes.length ≤ 12) ∧ ∀ g ∈ q.goes, GoOk D.h.modes.length g := by
  obtain ⟨q, e, g1, h1, h2, h3⟩ := Dk.quest ok hr.mode hx
  have hl := lots_le ok
  have hlot := hr.lot
  cases hd : q.drawn with
  | true =>
    rw [hd] at h3
    obtain ⟨l1, l2⟩ : LdOk q.goes.length D.h.rd.length D.h.lots.length q.rows := h3
    obtain ⟨row, er, hm⟩ := mem_get (xs := q.rows) (i := D.st) (by have := ok.s; omega)
    obtain ⟨m1, m2⟩ := l2 row hm
    obtain ⟨a, ea, ha⟩ := mem_get (xs := row) (i := r.lot) (by omega)
    refine ⟨q, row, e, er, ?_, by unfold drawnOf; rw [e], g1, by omega, fun _ => ⟨a, ea, by rw [List.getD_eq_getElem?_getD, ea]; rfl, m2 a ha⟩, fun h => (by rw [hd] at h; cases h), h1, h2⟩
    unfold rowOf
    rw [e]
    show q.rows.getD D.st [] = row
    rw [List.getD_eq_getElem?_getD, er]
    rfl
  | false =>
    rw [hd] at h3
    obtain ⟨l1, l2⟩ : RwOk q.goes.length D.h.rd.length q.rows := h3
    obtain ⟨row, er, hm⟩ := mem_get (xs := q.rows) (i := D.st) (by have := ok.s; omega)
    obtain ⟨m1, m2⟩ := l2 row hm
    refine ⟨q, row, e, er, ?_, by unfold drawnOf; rw [e], g1, by omega, fun h => (by rw [hd] at h; cases h), fun _ => ⟨m1, by have := m2.1; omega, ?_⟩, h1, h2⟩
    rotate_left
    · have h5 := sum_lt (ns := row) (b := 2 ^ 200) (k := 12) (by omega) m2.2
      have h6 : (12 : Nat) * 2 ^ 200 < 2 ^ 300 := by decide
      omega
    unfold rowOf
    rw [e]
    show q.rows.getD D.st [] = row
    rw [List.getD_eq_getElem?_getD, er]
    rfl
theorem ans_lt {r : Rd} {k x n m : Nat} (hr : r.Ok D k) (hx : x < (qsOf D r.mode).length) (hc : CallOk D r x n m) : ansN D r x n < (gsOf D r.mode x).length ∧ (gsOf D r.mode x).length ≤ 12 ∧ ((gsOf D r.mode x)[ansN D r x n]? = some (goN D r x n)) ∧ GoOk D.h.modes.length (goN D r x n) ∧ hidN D r x n m < D.h.lots.length := by
  obtain ⟨q, row, e1, e2, e3, e4, e5, hl, hd, hs, hg, hgo⟩ := quest_st ok hr hx
  have h1 : ansN D r x n < q.goes.length := by
    unfold ansN
    rw [e4, e3]
    cases h : q.drawn with
    | true =>
      obtain ⟨a, a1, a2, a3⟩ := hd h
      rw [if_pos rfl, a2]
      exact a3
    | false =>
      rw [if_neg (by decide)]
      obtain ⟨s1, s2, s3⟩ := hs h
      have h3 := hc.hn (by omega) (by omega) (by rw [Int.toNat_natCast, e4]; exact h)
      rw [Int.toNat_natCast, e3] at h3
      have := numOf_lt row n h3
      omega
  have h2 : (gsOf D r.mode x)[ansN D r x n]? = some (goN D r x n) := by
    unfold goN
    rw [e5, List.getD_eq_getElem?_getD, List.getElem?_eq_getElem h1]
    rfl
  refine ⟨by rw [e5]; exact h1, by rw [e5]; exact hg.2, h2, ?_, ?_⟩
  · rw [e5] at h2
    exact hgo _ (List.mem_of_getElem? h2)
  · unfold hidN
    split
    · exact numOf_lt _ _ hc.hm
    · exact hr.lot
theorem payOf_ok {r : Rd} {k x : Nat} (hr : r.Ok D k) (hx : x < (qsOf D r.mode).length) : ∃ c, (csOf D r.mode)[x]? = some c ∧ payOf D r x = pay c r.n r.d ∧ PrOk c.1 c.2 ∧ Bt (140 * (k + 1 + 1)) (3 * (k + 1 + 1)) (payOf D r x).1 (payOf D r x).2 ∧ 0 < (payOf D r x).1 := by
  obtain ⟨c, c1, c2, c3⟩ := Dk.cost ok hr.mode hx
  obtain ⟨pb, pp⟩ := pay_ok ok hr.bt hr.pos c3
  have e : payOf D r x = pay c r.n r.d := by unfold payOf; rw [c2]
  rw [e]
  exact ⟨c, c1, rfl, c3, pb, pp⟩
/-- the ask line -/
theorem Jn.ask {k : Nat} {r : Rd} {j : List Nat} {x : Nat} (h : Jn D k r j) (hk : k ≤ 80) (ht : outOf D r x = .told) : Jn D (k + 1) (askR D r x) (j ++ askT D r x) := by
  obtain ⟨⟨_, hx⟩, hb⟩ := told_iff.mp ht
  rw [Int.toNat_natCast] at hb
  have hx' : x < (qsOf D r.mode).length := by omega
  have hq := Dk.qlen ok h.ok.mode
  obtain ⟨c, c1, c2, c3, pb, pp⟩ := payOf_ok ok h.ok hx'
  have hbn := pay_bound ok.b hb pp pb.2.1 (nlt pb.2.2 (by omega))
  have w1 := nL_le (toNat_lt pb.1 (b := 14000) (by omega))
  have w2 := nL_le (toNat_lt pb.2.2 (b := 14000) (by omega))
  have w3 := nL_le (lt14 (n := x) (by omega))
  refine h.snoc ok (ln_ask _ _ _) (plain_ask _ _ _) ?_ ?_ hbn
  · have := ln_len (w := askW x (payOf D r x).1.toNat (payOf D r x).2.toNat)
    rw [askW_len] at this
    unfold askT
    omega
  · unfold askT readOn
    rw [if_pos (take_ask _ _ _)]
    unfold askOn
    rw [field_ask _ _ (by omega : x < 10 ^ 6)]
    rw [if_pos ⟨by omega, by omega⟩, Int.toNat_natCast]
    dsimp only
    have e : pay ((csOf D r.mode).getD x (1, 1)) r.n r.d = payOf D r x := rfl
    rw [e, if_neg hb, if_pos rfl]
    rfl
/-- the say line -/
theorem Jn.say {k k' : Nat} {r : Rd} {j : List Nat} {x n m : Nat} (h : Jn D k (askR D r x) j) (hr : r.Ok D k') (hk : k ≤ 80) (hx : x < (qsOf D r.mode).length) (hc : CallOk D r x n m) : Jn D (k + 1) (sayR D r x n m) (j ++ sayT D r x n m) := by
  obtain ⟨a1, a2, a3, a4, a5⟩ := ans_lt ok hr hx hc
  have hl := lots_le ok
  obtain ⟨⟨kk, hkk⟩, _⟩ := id ok.h
  have hml := hkk.ml
  have h1 := a4.1
  have w1 := nL_le (lt14 (n := ansN D r x n) (by omega))
  have w2 := nL_le (lt14 (n := (goN D r x n).1) (by omega))
  have w3 := nL_le (lt14 (n := hidN D r x n m) (by omega))
  refine h.snoc ok (ln_say _ _ _) (plain_say _ _ _) ?_ ?_ h.nb
  · have := ln_len (w := sayW (ansN D r x n) (goN D r x n).1 (hidN D r x n m))
    rw [sayW_len] at this
    unfold sayT
    omega
  · unfold sayT readOn
    rw [if_neg (take_say _ _ _)]
    unfold sayOn
    have hm : (askR D r x).mode = r.mode := rfl
    have hlo : (askR D r x).lot = r.lot := rfl
    rw [show (askR D r x).wait = some x from rfl]
    dsimp only
    rw [hm, hlo, field_say _ _ (by omega : ansN D r x n < 10 ^ 6), field_say3 _ _ (by omega : hidN D r x n m < 10 ^ 6)]
    rw [if_pos ⟨by omega, by omega⟩, Int.toNat_natCast, Int.toNat_natCast]
    have e : (gsOf D r.mode x).getD (ansN D r x n) (0, 0) = goN D r x n := rfl
    have hn : ¬ ((goN D r x n).2 = 0 ∧ ((hidN D r x n m : Nat) : Int) ≠ r.lot) := by
      rintro ⟨g1, g2⟩
      apply g2
      unfold hidN
      rw [if_neg (by omega)]
    rw [e, if_pos ⟨⟨by omega, by omega⟩, hn⟩, if_pos rfl]
    rfl
end
end
end CR

set_option Elab.async false
set_option linter.all false
set_option maxRecDepth 100000
set_option maxHeartbeats 4000000
set_option exponentiation.threshold 300000
namespace CR
open PySem PySem.Spec L2
local macro_rules | `(tactic| walk_at "s") => `(tactic| dsimp only [fRet, fSeq, fCut, fAsg, fDrop, fIfS, fNext, fBreak, fCont, fVar, fC, fOp, fCall, fCons, fNil, fCB, fBMS, fBML, fTup, fLst, fTest, fNot, fAnd, fOr, fAndV, fOrV, fNotV, fIf, fNeg, fChain, fGName, fGTup, fGCons, fGNil, fAugI, fSl, fPart, fNoPart, fRevL, fLstRg, fRepl, fFld, fSFld, fMeth, fProp, fPropSet, fMake, fMakeV, fCMeth, fGSub, fAugSub, fISeq, fIStr, fIRng1, fIRng2, fFor, fWhile, fLc, fYes, fIsi, fOf, fSeqX, fIfX, fRaise, fSetMX, fTry, fFldX, fIsX, fCMK, fMD, nth, lawS, startP, setS, clrS, wipeS, fnEnds, pI0, pI])
local macro_rules | `(tactic| walk_at "d") => `(tactic| try dsimp only)
section
variable {P : Program} {w : World} {K : PySem.W.Frag} {mg : Str → Option Value} {base : Heap}
open SX
def sp_over : PSp := fun ps M Q => ∃ a b c e : Int, ps = [fr a b, fr c e] ∧ FrB a b ∧ FrB c e ∧ 0 < c ∧ c.natAbs < 2 ^ 4000 ∧ Q (nfr (a * e) (b * c)) M
theorem sp_over_len : ∀ vs M Q, sp_over vs M Q → vs.length = 2 := fun vs M Q ⟨a, b, c, d, e, _⟩ => by rw [e]; rfl
abbrev s_over : Stmt := top 15
theorem sc_over : FnScope ["x", "y"] ["x", "y"] (defScope s_over) := ⟨rfl, rfl, rfl, by decide +kernel, rfl, by decide +kernel, by decide +kernel⟩
theorem c_over (F : Std K mg "over" s_over) (B : BFree mg) (c_ratio : C8.Cal P w K mg base 1 "ratio" (toSp K sp_f) []) : C8.Cal P w K mg base 2 "over" (toSp K sp_over) [] := by
  refine F.cal sc_over sp_over_len (fun _ _ _ _ _ _ us hl => match us, hl with | [_, _], _ => rfl) (fun f cdv A outer s H E hr => ?_)
  have nd := sc_over.nd
  refine ⟨_, _, (qss_one (qs_ret (qe_callK K c_ratio hr (by decide) rfl (qa_cons (qe_mul (qe_ixK K (qe_var (i := 0) rfl (by first | exact .inl rfl | exact .inr (.inl rfl) | exact .inr (.inr rfl))) qe_int) (qe_ixK K (qe_var (i := 1) rfl (by first | exact .inl rfl | exact .inr (.inl rfl) | exact .inr (.inr rfl))) qe_int)) (qa_cons (qe_mul (qe_ixK K (qe_var (i := 0) rfl (by first | exact .inl rfl | exact .inr (.inl rfl) | exact .inr (.inr rfl))) qe_int) (qe_ixK K (qe_var (i := 1) rfl (by first | exact .inl rfl | exact .inr (.inl rfl) | exact .inr (.inr rfl))) qe_int)) qa_nil))))), fun vs M Q h => ?_⟩
  obtain ⟨a, b, c, e, rfl, h1, h2, h3, h4, k⟩ := h
  walk_at "s"
  refine i0 (i1 ⟨h1.nd h2, i1 (i0 ⟨cmx_w h1.2.2 h4 (by decide) (by decide) (by decide), _, _, rfl, Int.mul_pos h1.2.1 h3, Nat.lt_of_lt_of_le (mul_lt h1.2.2 h4) (Nat.pow_le_pow_right (by decide) (by decide)), M, Le.refl, k⟩)⟩)
abbrev s__law_over : Stmt := top 121
theorem sc__law_over : FnScope ["x", "y"] ["x", "y"] (defScope s__law_over) := ⟨rfl, rfl, rfl, by decide +kernel, rfl, by decide +kernel, by decide +kernel⟩
theorem c__law_over (F : Std K mg "_law_over" s__law_over) (B : BFree mg) (c__law_f : C8.Cal P w K mg base 2 "_law_f" (toSp K sp_f) []) : C8.Cal P w K mg base 3 "_law_over" (toSp K sp_over) [] := by
  refine F.cal sc__law_over sp_over_len (fun _ _ _ _ _ _ us hl => match us, hl with | [_, _], _ => rfl) (fun f cdv A outer s H E hr => ?_)
  have nd := sc__law_over.nd
  refine ⟨_, _, (qss_one (qs_ret (qe_callK K c__law_f hr (by decide) rfl (qa_cons (qe_mul (qe_ixK K (qe_var (i := 0) rfl (by first | exact .inl rfl | exact .inr (.inl rfl) | exact .inr (.inr rfl))) qe_int) (qe_ixK K (qe_var (i := 1) rfl (by first | exact .inl rfl | exact .inr (.inl rfl) | exact .inr (.inr rfl))) qe_int)) (qa_cons (qe_mul (qe_ixK K (qe_var (i := 0) rfl (by first | exact .inl rfl | exact .inr (.inl rfl) | exact .inr (.inr rfl))) qe_int) (qe_ixK K (qe_var (i := 1) rfl (by first | exact .inl rfl | exact .inr (.inl rfl) | exact .inr (.inr rfl))) qe_int)) qa_nil))))), fun vs M Q h => ?_⟩
  obtain ⟨a, b, c, e, rfl, h1, h2, h3, h4, k⟩ := h
  walk_at "s"
  refine i0 (i1 ⟨h1.nd h2, i1 (i0 ⟨cmx_w h1.2.2 h4 (by decide) (by decide) (by decide), _, _, rfl, Int.mul_pos h1.2.1 h3, Nat.lt_of_lt_of_le (mul_lt h1.2.2 h4) (Nat.pow_le_pow_right (by decide) (by decide)), M, Le.refl, k⟩)⟩)
def sp_atold : PSp := fun ps M Q => ∃ (D : Dk) (r : Rd) (k x n m : Nat) (q : Qn), ps = [q.p, I D.st, I r.lot, .int n] ∧ D.Ok ∧ r.Ok D k ∧ x < (qsOf D r.mode).length ∧ (qsOf D r.mode)[x]? = some q ∧ CallOk D r x n m ∧ Q (I (ansN D r x n)) M
theorem sp_atold_len : ∀ vs M Q, sp_atold vs M Q → vs.length = 4 := fun vs M Q ⟨a, b, c, d, e, f, g, e', _⟩ => by rw [e']; rfl
theorem str_drawn (b : Bool) : decide ((if b then ("drawn" : Str) else "shown") = "drawn") = b := by cases b <;> decide
theorem str_shown (b : Bool) : decide ((if b then ("drawn" : Str) else "shown") = "shown") = !b := by cases b <;> decide
abbrev s_answer_told : Stmt := top 105
theorem sc_answer_told : FnScope ["inquiry", "state", "hidden", "draw"] ["inquiry", "state", "hidden", "draw"] (defScope s_answer_told) := ⟨rfl, rfl, rfl, by decide +kernel, rfl, by decide +kernel, by decide +kernel⟩
theorem c_answer_told (F : Std K mg "answer_told" s_answer_told) (B : BFree mg) (c_number_told : C8.Cal P w K mg base 1 "number_told" (toSp K sp_number) []) : C8.Cal P w K mg base 2 "answer_told" (toSp K sp_atold) [] := by
  refine F.cal sc_answer_told sp_atold_len (fun _ _ _ _ _ _ us hl => match us, hl with | [_, _, _, _], _ => rfl) (fun f cdv A outer s H E hr => ?_)
  have nd := sc_answer_told.nd
  refine ⟨_, _, (qss_cons (qs_if (qt_eqK K hr.units (qe_ixK K (qe_var (i := 0) rfl (by first | exact .inl rfl | exact .inr (.inl rfl) | exact .inr (.inr rfl))) qe_int) qe_str (nomark _)) (qss_one (qs_ret (qe_ixK K (qe_ixK K (qe_ixK K (qe_var (i := 0) rfl (by first | exact .inl rfl | exact .inr (.inl rfl) | exact .inr (.inr rfl))) qe_int) (qe_var (i := 1) rfl (by first | exact .inl rfl | exact .inr (.inl rfl) | exact .inr (.inr rfl)))) (qe_var (i := 2) rfl (by first | exact .inl rfl | exact .inr (.inl rfl) | exact .inr (.inr rfl)))))) qss_nil)
      (qss_one (qs_ret (qe_callK K c_number_told hr (by decide) rfl (qa_cons (qe_ixK K (qe_ixK K (qe_var (i := 0) rfl (by first | exact .inl rfl | exact .inr (.inl rfl) | exact .inr (.inr rfl))) qe_int) (qe_var (i := 1) rfl (by first | exact .inl rfl | exact .inr (.inl rfl) | exact .inr (.inr rfl)))) (qa_cons (qe_var (i := 3) rfl (by first | exact .inl rfl | exact .inr (.inl rfl) | exact .inr (.inr rfl))) qa_nil)))))), fun vs M Q h => ?_⟩
  obtain ⟨D, r, k, x, n, m, q, rfl, ok, hr, hx, e, hc, kQ⟩ := h
  obtain ⟨q', row, e1, e2, e3, e4, e5, hl, hd, hs, hg, hgo⟩ := quest_st ok hr hx
  rw [e] at e1
  cases e1
  walk_at "s"
  refine i0 ?_
  show (decide _ = true → _) ∧ (decide _ = false → _)
  rw [str_drawn]
  refine ⟨fun h => ?_, fun h => ?_⟩
  · obtain ⟨a, a1, a2, a3⟩ := hd h
    refine i1 (ixm e2 (ixm a1 ⟨M, Le.refl, ?_⟩))
    unfold ansN at kQ
    rw [e4, h, if_pos rfl, e3, a2] at kQ
    exact kQ
  · refine i1 (ixm e2 ⟨row, n, rfl, hl, ?_, M, Le.refl, ?_⟩)
    · have := hc.hn (by omega) (by omega) (by rw [Int.toNat_natCast, e4]; exact h)
      rw [Int.toNat_natCast, e3] at this
      exact this
    · unfold ansN at kQ
      rw [e4, h, if_neg (by decide), e3] at kQ
      exact kQ
/-- all that is no instance stays -/
def LeN (M M' : Mp) : Prop := ∀ b o, M b = some o → (∀ C dx fs, o ≠ .ins C dx fs) → M' b = some o
theorem LeN.of_le {M M' : Mp} (l : Le M M') : LeN M M' := fun b o h _ => l b o h
theorem LeN.trans {M M' M2 : Mp} (l : LeN M M') (l2 : LeN M' M2) : LeN M M2 := fun b o h n => l2 b o (l b o h n) n
theorem LeN.of_lex {a : Addr} {M M' : Mp} {C dx : Addr} {fs : List (Str × CR.P)} (h : M a = some (.ins C dx fs)) (l : LeX a M M') : LeN M M' := fun b o hb n => by
  by_cases e : b = a
  · subst e
    rw [h] at hb
    cases hb
    exact absurd rfl (n C dx fs)
  · exact l b o e hb
theorem LeN.drw {M M' : Mp} {a : Addr} (l : LeN M M') (h : M a = some .drw) : M' a = some .drw := l a _ h fun _ _ _ e => by cases e
theorem LeN.lst {M M' : Mp} {a : Addr} {xs : List CR.P} (l : LeN M M') (h : M a = some (.lst xs)) : M' a = some (.lst xs) := l a _ h fun _ _ _ e => by cases e
def seatOf (M : Mp) (g : Addr) : Option Addr := match M g with
  | some (.ins _ _ fs) => (match lkP "seat" fs with
    | some (.ref st) => some st
    | _ => none)
  | _ => none
/-- all but a guard and its seat stays -/
def LeU (g : Addr) (M M' : Mp) : Prop := ∀ st, seatOf M g = some st → ∀ b o, b ≠ g → b ≠ st → M b = some o → M' b = some o
theorem LeU.of_le {g : Addr} {M M' : Mp} (l : Le M M') : LeU g M M' := fun _ _ b o _ _ h => l b o h
theorem seat_of {CG dx st g : Addr} {D : Dk} {r : Rd} {j : List Nat} {M : Mp} (h : M g = some (.ins CG dx (GuF D st r j))) : seatOf M g = some st := by
  unfold seatOf
  rw [h]
  rfl
theorem LeU.n {CG CS g : Addr} {D : Dk} {r : Rd} {j : List Nat} {M M' : Mp} (l : LeU g M M') (h : GuAt CG CS M g D r j) : LeN M M' := fun b o hb n => by
  obtain ⟨dx, st, hm, dy, hs⟩ := h
  refine l st (seat_of hm) b o (fun e => ?_) (fun e => ?_) hb
  · subst e
    rw [hm] at hb
    cases hb
    exact n _ _ _ rfl
  · subst e
    rw [hs] at hb
    cases hb
    exact n _ _ _ rfl
theorem GuNew.le_u {CG CS g : Addr} {D : Dk} {r : Rd} {j : List Nat} {M0 M M' : Mp} (h : GuNew CG CS M0 M g D r j) (l : LeU g M M') : Le M0 M' := fun b o hb => by
  obtain ⟨l0, n0, dx, st, ns0, hgs, hm, hs⟩ := h
  refine l st (seat_of hm) b o (fun e => ?_) (fun e => ?_) (l0 b o hb)
  · rw [e, n0] at hb; cases hb
  · rw [e, ns0] at hb; cases hb
theorem GuNew.at {CG CS g : Addr} {D : Dk} {r : Rd} {j : List Nat} {M0 M : Mp} (h : GuNew CG CS M0 M g D r j) : GuAt CG CS M g D r j := by
  obtain ⟨l0, n0, dx, st, ns0, hgs, hm, hs⟩ := h
  exact ⟨dx, st, hm, hs⟩
def sp_sask (C : Addr) : PSp := fun ps M Q => ∃ (a : Addr) (D : Dk) (r : Rd) (k x n m : Nat), ps = [.ref a, .int x, .int n, .int m] ∧ SitAt C M a D.h.p D.st r ∧ D.Ok ∧ r.Ok D k ∧ k ≤ 80 ∧ x < (qsOf D r.mode).length ∧ CallOk D r x n m ∧
  ∀ M', LeX a M M' → SitAt C M' a D.h.p D.st (sayR D r x n m) → Q (I (ansN D r x n)) M'
theorem sp_sask_len (C : Addr) : ∀ vs M Q, sp_sask C vs M Q → vs.length = 4 := fun vs M Q ⟨a, b, c, d, e, f, g, e', _⟩ => by rw [e']; rfl
abbrev st_q_Sitting_ask : Stmt := meth 106 9
theorem sc_q_Sitting_ask : FnScope ["self", "question", "draw", "second", "mode", "hidden", "steps", "house", "inquiry", "answer", "goes"] ["self", "question", "draw", "second"] (defScope st_q_Sitting_ask) := ⟨rfl, rfl, rfl, by decide +kernel, rfl, by decide +kernel, by decide +kernel⟩
theorem q_Sitting_ask {C_Sitting : Addr} (F : XMStd K C_Sitting "ask" "Sitting.ask" st_q_Sitting_ask [0, 0]) (B : BFree mg) (cl_Sitting : Cls K C_Sitting) (n_Sitting_contents : NoAttr K C_Sitting "contents") (n_Sitting_read_state : NoAttr K C_Sitting "read_state") (n_Sitting_sat_house : NoAttr K C_Sitting "sat_house") (c_answer_told : C8.Cal P w K mg base 2 "answer_told" (toSp K sp_atold) []) (c_number_told : C8.Cal P w K mg base 1 "number_told" (toSp K sp_number) []) (c_question_of : C8.Cal P w K mg base 1 "question_of" (toSp K sp_qof) []) : MetD P w K mg base 3 C_Sitting "ask" "Sitting.ask" st_q_Sitting_ask [0, 0] ["self", "question", "draw", "second"] (toSp K (sp_sask C_Sitting)) := by
  refine F.metd sc_q_Sitting_ask (sp_sask_len C_Sitting)  (fun f cdv A outer s H E hr => ?_)
  have nd := sc_q_Sitting_ask.nd
  refine ⟨_, _, (qss_cons (qs_asg (qe_fld (C := C_Sitting) K cl_Sitting n_Sitting_contents (qe_var (i := 0) rfl (by first | exact .inl rfl | exact .inr (.inl rfl) | exact .inr (.inr rfl)))) (qg_tup rfl (qgs_cons (qg_name (i := 4) nd rfl (by first | exact .inl rfl | exact .inr rfl)) (qgs_cons (qg_name (i := 5) nd rfl (by first | exact .inl rfl | exact .inr rfl)) (qgs_cons (qg_name (i := 6) nd rfl (by first | exact .inl rfl | exact .inr rfl)) qgs_nil)))))
      (qss_cons (qs_set (i := 7) nd rfl (by first | exact .inl rfl | exact .inr rfl) (qe_fld (C := C_Sitting) K cl_Sitting n_Sitting_sat_house (qe_var (i := 0) rfl (by first | exact .inl rfl | exact .inr (.inl rfl) | exact .inr (.inr rfl)))))
      (qss_cons (qs_if (qt_not (qt_chain op_le op_lt ar_le ar_lt qe_int (qe_var (i := 1) rfl (by first | exact .inl rfl | exact .inr (.inl rfl) | exact .inr (.inr rfl))) (qe_callBK K ac_len call_len rfl B.f_len PySem.boot_len (qa_cons (qe_ixK K (qe_ixK K (qe_var (i := 7) rfl (by first | exact .inl rfl | exact .inr (.inl rfl) | exact .inr (.inr rfl))) qe_int) (qe_var (i := 4) rfl (by first | exact .inl rfl | exact .inr (.inl rfl) | exact .inr (.inr rfl)))) qa_nil)))) (qss_one qs_never) qss_nil)
      (qss_cons (qs_set (i := 8) nd rfl (by first | exact .inl rfl | exact .inr rfl) (qe_callK K c_question_of hr (by decide) rfl (qa_cons (qe_var (i := 7) rfl (by first | exact .inl rfl | exact .inr (.inl rfl) | exact .inr (.inr rfl))) (qa_cons (qe_var (i := 4) rfl (by first | exact .inl rfl | exact .inr (.inl rfl) | exact .inr (.inr rfl))) (qa_cons (qe_var (i := 1) rfl (by first | exact .inl rfl | exact .inr (.inl rfl) | exact .inr (.inr rfl))) qa_nil)))))
      (qss_cons (qs_set (i := 9) nd rfl (by first | exact .inl rfl | exact .inr rfl) (qe_callK K c_answer_told hr (by decide) rfl (qa_cons (qe_var (i := 8) rfl (by first | exact .inl rfl | exact .inr (.inl rfl) | exact .inr (.inr rfl))) (qa_cons (qe_fld (C := C_Sitting) K cl_Sitting n_Sitting_read_state (qe_var (i := 0) rfl (by first | exact .inl rfl | exact .inr (.inl rfl) | exact .inr (.inr rfl)))) (qa_cons (qe_var (i := 5) rfl (by first | exact .inl rfl | exact .inr (.inl rfl) | exact .inr (.inr rfl))) (qa_cons (qe_var (i := 2) rfl (by first | exact .inl rfl | exact .inr (.inl rfl) | exact .inr (.inr rfl))) qa_nil))))))
      (qss_cons (qs_set (i := 10) nd rfl (by first | exact .inl rfl | exact .inr rfl) (qe_ixK K (qe_ixK K (qe_var (i := 8) rfl (by first | exact .inl rfl | exact .inr (.inl rfl) | exact .inr (.inr rfl))) qe_int) (qe_var (i := 9) rfl (by first | exact .inl rfl | exact .inr (.inl rfl) | exact .inr (.inr rfl)))))
      (qss_cut (qs_if (qt_eqK K hr.units (qe_ixK K (qe_var (i := 10) rfl (by first | exact .inl rfl | exact .inr (.inl rfl) | exact .inr (.inr rfl))) qe_int) qe_int (nomark _)) (qss_one (qs_set (i := 5) nd rfl (by first | exact .inl rfl | exact .inr rfl) (qe_callK K c_number_told hr (by decide) rfl (qa_cons (qe_ixK K (qe_var (i := 7) rfl (by first | exact .inl rfl | exact .inr (.inl rfl) | exact .inr (.inr rfl))) qe_int) (qa_cons (qe_var (i := 3) rfl (by first | exact .inl rfl | exact .inr (.inl rfl) | exact .inr (.inr rfl))) qa_nil))))) qss_nil)
      (qss_cons (qs_fld (C := C_Sitting) cl_Sitting n_Sitting_contents (qe_var (i := 0) rfl (by first | exact .inl rfl | exact .inr (.inl rfl) | exact .inr (.inr rfl))) (qe_tup (qa_cons (qe_ixK K (qe_var (i := 10) rfl (by first | exact .inl rfl | exact .inr (.inl rfl) | exact .inr (.inr rfl))) qe_int) (qa_cons (qe_var (i := 5) rfl (by first | exact .inl rfl | exact .inr (.inl rfl) | exact .inr (.inr rfl))) (qa_cons (qe_plusK K (qe_var (i := 6) rfl (by first | exact .inl rfl | exact .inr (.inl rfl) | exact .inr (.inr rfl))) (qe_tup (qa_cons (qe_tup (qa_cons (qe_var (i := 1) rfl (by first | exact .inl rfl | exact .inr (.inl rfl) | exact .inr (.inr rfl))) (qa_cons (qe_var (i := 9) rfl (by first | exact .inl rfl | exact .inr (.inl rfl) | exact .inr (.inr rfl))) qa_nil))) qa_nil))) qa_nil)))))
      (qss_one (qs_ret (qe_var (i := 9) rfl (by first | exact .inl rfl | exact .inr (.inl rfl) | exact .inr (.inr rfl))))))))))))), fun vs M Q h => ?_⟩
  obtain ⟨a, D, r, k, x, n, m, rfl, ⟨dx, hm⟩, ok, hr, hk, hx, hc, kQ⟩ := h
  obtain ⟨⟨kk, hkk⟩, _⟩ := id ok.h
  have hll := hkk.ll
  obtain ⟨q, row, e1, e2, e3, e4, e5, hl, hd, hs, hg, hgo⟩ := quest_st ok hr hx
  obtain ⟨a1, a2, a3, a4, a5⟩ := ans_lt ok hr hx hc
  have em := (Dk.mode ok hr.mode).1
  walk_at "s"
  refine ⟨dx, _, _, hm, rfl, rfl, dx, _, _, hm, rfl, ?_⟩
  refine ⟨fun _ => i4 (ixm em (len_t ?_)), fun h => absurd (of_decide_eq_false h) (by omega)⟩
  rw [List.length_map]
  refine ⟨fun _ => ?_, fun h => absurd (of_decide_eq_false h) (by omega)⟩
  refine ⟨D, r.mode, x, q, rfl, ok, hr.mode, e1, dx, _, _, hm, rfl, ?_⟩
  refine ⟨D, r, k, x, n, m, q, rfl, ok, hr, hx, e1, hc, i2 ?_⟩
  rw [e5] at a3
  refine ixm a3 ⟨fun ρ M' => M' = M ∧ ρ = [some (.ref a), some (.int x), some (.int n), some (.int m), some (I r.mode), some (I (hidN D r x n m)), some (Gs r.talk), some D.h.p, some q.p, some (I (ansN D r x n)), some (.tup [I (goN D r x n).1, I (goN D r x n).2])], i1 ?_, ?_⟩
  · show (decide _ = true → _) ∧ (decide _ = false → _)
    refine ⟨fun h => i3 ⟨D.h.lots, m, rfl, by omega, hc.hm, rfl, ?_⟩, fun h => ⟨rfl, ?_⟩⟩
    · have h' : (goN D r x n).2 = 1 := by have := of_decide_eq_true h; omega
      unfold hidN
      rw [if_pos h']
    · have h' : ¬ (goN D r x n).2 = 1 := by have := of_decide_eq_false h; omega
      unfold hidN
      rw [if_neg h']
  · rintro ρ M' ⟨rfl, rfl⟩
    walk_at "s"
    refine i0 (cat_t (szl _ ?_) ⟨dx, _, hm, (show 3 < 1000 by decide), fun M2 l2 m2 => ⟨M2, Le.refl, kQ M2 l2 ⟨dx, ?_⟩⟩⟩)
    · rw [List.length_map]
      have := hr.tk
      show _ + 1 < _
      omega
    · have e : r.talk.map (fun g => CR.P.tup [I g.1, I g.2]) ++ [.tup [I x, I (ansN D r x n)]] = (r.talk ++ [(x, ansN D r x n)]).map (fun g => CR.P.tup [I g.1, I g.2]) := by rw [List.map_append]; rfl
      rw [m2]
      show some (MO.ins C_Sitting dx [_, _, (_, CR.P.tup [_, _, CR.P.tup (r.talk.map (fun g => CR.P.tup [I g.1, I g.2]) ++ [.tup [I x, I (ansN D r x n)]])])]) = _
      rw [e]
      rfl
/-- cost: what is to pay, or an error -/
def ErrAt (K : PySem.W.Frag) (CE : Addr) (f : Str) (p : CR.P) (M : Mp) (Ep : XPw) : Prop := ∀ d M', Le M M' → M' d = some (.xd [(f, p)]) → Ep CE d M'
def sp_cost (K : PySem.W.Frag) (CG CS CB CR' : Addr) : PSpX := fun ps M Q Ep => ∃ (g : Addr) (D : Dk) (r : Rd) (j : List Nat) (k : Nat) (x : Int), ps = [.ref g, .int x] ∧ GuAt CG CS M g D r j ∧ D.Ok ∧ r.Ok D k ∧ k ≤ 80 ∧ r.n.natAbs < 2 ^ 2000 ∧
  (outOf D r x = .bad → ErrAt K CB "question" (.int x) M Ep) ∧ (outOf D r x = .left → ErrAt K CR' "left" (leftOf D r) M Ep) ∧ (outOf D r x = .told → Q (fr (payOf D r x.toNat).1 (payOf D r x.toNat).2) M)
theorem sp_cost_len (K : PySem.W.Frag) (CG CS CB CR' : Addr) : ∀ vs M Q E, sp_cost K CG CS CB CR' vs M Q E → vs.length = 2 := fun vs M Q E ⟨a, b, c, d, e, f, e', _⟩ => by rw [e']; rfl
abbrev st_x_Guard_cost : Stmt := meth 108 8
theorem sc_x_Guard_cost : FnScope ["self", "question", "at", "more"] ["self", "question"] (defScope st_x_Guard_cost) := ⟨rfl, rfl, rfl, by decide +kernel, rfl, by decide +kernel, by decide +kernel⟩
theorem x_Guard_cost {C_BadQuestion : Addr} {C_Guard : Addr} {C_Refused : Addr} {C_Sitting : Addr} (F : XMStd K C_Guard "cost" "Guard.cost" st_x_Guard_cost []) (B : BFree mg) (cl_Guard : Cls K C_Guard) (n_Guard_kept_house : NoAttr K C_Guard "kept_house") (n_Guard_most_paid : NoAttr K C_Guard "most_paid") (n_Guard_paid : NoAttr K C_Guard "paid") (n_Guard_price_rows : NoAttr K C_Guard "price_rows") (n_Guard_seat : NoAttr K C_Guard "seat") (er_BadQuestion : Err1 P K mg "BadQuestion" C_BadQuestion "question") (er_Refused : Err1 P K mg "Refused" C_Refused "left") (p_Sitting_mode : PropCal P w K mg base 1 C_Sitting "mode" (toSp K (sp_smode C_Sitting))) (c_is_below : C8.Cal P w K mg base 1 "is_below" (toSp K sp_less) []) (c_over : C8.Cal P w K mg base 2 "over" (toSp K sp_over) []) (c_times : C8.Cal P w K mg base 2 "times" (toSp K sp_times) []) : MetX P w K mg base 3 C_Guard "cost" "Guard.cost" st_x_Guard_cost [] ["self", "question"] (toSpX K (sp_cost K C_Guard C_Sitting C_BadQuestion C_Refused)) := by
  refine F.metx sc_x_Guard_cost (sp_cost_len K C_Guard C_Sitting C_BadQuestion C_Refused)  (fun f cdv A outer s H E hr tkW => ?_)
  have nd := sc_x_Guard_cost.nd
  refine ⟨_, _, (qssx_cons (qsx_of (qs_set (i := 2) nd rfl (by first | exact .inl rfl | exact .inr rfl) (qe_prop p_Sitting_mode hr (by decide) (qe_fld (C := C_Guard) K cl_Guard n_Guard_seat (qe_var (i := 0) rfl (by first | exact .inl rfl | exact .inr (.inl rfl) | exact .inr (.inr rfl)))))))
      (qssx_cons (qsx_if (qt_not (qt_chain op_le op_lt ar_le ar_lt qe_int (qe_var (i := 1) rfl (by first | exact .inl rfl | exact .inr (.inl rfl) | exact .inr (.inr rfl))) (qe_callBK K ac_len call_len rfl B.f_len PySem.boot_len (qa_cons (qe_ixK K (qe_ixK K (qe_fld (C := C_Guard) K cl_Guard n_Guard_kept_house (qe_var (i := 0) rfl (by first | exact .inl rfl | exact .inr (.inl rfl) | exact .inr (.inr rfl)))) qe_int) (qe_var (i := 2) rfl (by first | exact .inl rfl | exact .inr (.inl rfl) | exact .inr (.inr rfl)))) qa_nil)))) (qssx_one (qsx_raise (k := 0) rfl tkW er_BadQuestion.t.choose_spec er_BadQuestion.g hr (Nat.zero_le _) rfl (qe_var (i := 1) rfl (by first | exact .inl rfl | exact .inr (.inl rfl) | exact .inr (.inr rfl))))) (qssx_of qss_nil))
      (qssx_cons (qsx_of (qs_set (i := 3) nd rfl (by first | exact .inl rfl | exact .inr rfl) (qe_callK K c_times hr (by decide) rfl (qa_cons (qe_fld (C := C_Guard) K cl_Guard n_Guard_paid (qe_var (i := 0) rfl (by first | exact .inl rfl | exact .inr (.inl rfl) | exact .inr (.inr rfl)))) (qa_cons (qe_ixK K (qe_ixK K (qe_fld (C := C_Guard) K cl_Guard n_Guard_price_rows (qe_var (i := 0) rfl (by first | exact .inl rfl | exact .inr (.inl rfl) | exact .inr (.inr rfl)))) (qe_var (i := 2) rfl (by first | exact .inl rfl | exact .inr (.inl rfl) | exact .inr (.inr rfl)))) (qe_var (i := 1) rfl (by first | exact .inl rfl | exact .inr (.inl rfl) | exact .inr (.inr rfl)))) qa_nil)))))
      (qssx_cons (qsx_if (qt_val (qe_callK K c_is_below hr (by decide) rfl (qa_cons (qe_fld (C := C_Guard) K cl_Guard n_Guard_most_paid (qe_var (i := 0) rfl (by first | exact .inl rfl | exact .inr (.inl rfl) | exact .inr (.inr rfl)))) (qa_cons (qe_var (i := 3) rfl (by first | exact .inl rfl | exact .inr (.inl rfl) | exact .inr (.inr rfl))) qa_nil)))) (qssx_one (qsx_raise (k := 0) rfl tkW er_Refused.t.choose_spec er_Refused.g hr (Nat.zero_le _) rfl (qe_callK K c_over hr (by decide) rfl (qa_cons (qe_fld (C := C_Guard) K cl_Guard n_Guard_most_paid (qe_var (i := 0) rfl (by first | exact .inl rfl | exact .inr (.inl rfl) | exact .inr (.inr rfl)))) (qa_cons (qe_fld (C := C_Guard) K cl_Guard n_Guard_paid (qe_var (i := 0) rfl (by first | exact .inl rfl | exact .inr (.inl rfl) | exact .inr (.inr rfl)))) qa_nil))))) (qssx_of qss_nil))
      (qssx_one (qsx_of (qs_ret (qe_var (i := 3) rfl (by first | exact .inl rfl | exact .inr (.inl rfl) | exact .inr (.inr rfl)))))))))), fun vs M Q Ep h => ?_⟩
  obtain ⟨g, D, r, j, k, x, rfl, ⟨dx, st, hm, hs⟩, ok, hr, hk, hnb, k1, k2, k3⟩ := h
  obtain ⟨em, er, el⟩ := Dk.mode ok hr.mode
  walk_at "s"
  obtain ⟨dy, hs'⟩ := hs
  have kB : ¬ (0 ≤ x ∧ x < (qsOf D r.mode).length) → ∀ (d : Addr) (M' : Mp), M d = none → Le M M' → M' d = some (.xd [("question", .int x)]) → ∃ M'', Le M'' M' ∧ Ep C_BadQuestion d M'' := fun h d M' _ l hd => ⟨M', Le.refl, k1 (bad_iff.mpr h) d M' l hd⟩
  refine ⟨dx, _, _, hm, rfl, dy, _, hs', st, D.h.p, D.st, r, rfl, ⟨dy, hs'⟩, ?_⟩
  refine ⟨fun h1 => ⟨dx, _, _, hm, rfl, i4 (ixm em (len_t ?_))⟩, fun h1 => ⟨fun h => (by cases h), fun _ => kB fun h => absurd h.1 (of_decide_eq_false h1)⟩⟩
  rw [List.length_map]
  refine ⟨fun h2 => ?_, fun h2 => kB fun h => absurd h.2 (of_decide_eq_false h2)⟩
  have h1' := of_decide_eq_true h1
  have h2' := of_decide_eq_true h2
  obtain ⟨c, c1, c2, c3, pb, pp⟩ := payOf_ok ok hr (x := x.toNat) (by omega)
  refine ⟨dx, _, _, hm, rfl, dx, _, _, hm, rfl, ixm er (ixmi h1' c1 ?_)⟩
  refine ⟨r.n, r.d, c.1, c.2, rfl, hr.bt.frb (by omega) (by omega), c3.frb, dx, _, _, hm, rfl, ?_⟩
  have pf := pb.frb (by omega) (by omega)
  refine ⟨D.bn, D.bd, (payOf D r x.toNat).1, (payOf D r x.toNat).2, by rw [c2]; rfl, ok.b.frb, pf, fun h3 => ?_, fun h3 => ⟨M, Le.refl, ?_⟩⟩
  · refine ⟨dx, _, _, hm, rfl, dx, _, _, hm, rfl, D.bn, D.bd, r.n, r.d, rfl, ok.b.frb, hr.bt.frb (by omega) (by omega), hr.pos, nlt hnb (by decide), fun d M' _ l hd => ⟨M', Le.refl, k2 (left_iff.mpr ⟨⟨h1', h2'⟩, of_decide_eq_true h3⟩) d M' l hd⟩⟩
  · have := k3 (told_iff.mpr ⟨⟨h1', h2'⟩, of_decide_eq_false h3⟩)
    rw [c2] at this
    exact this
def sp_gask (K : PySem.W.Frag) (CG CS CB CR' : Addr) : PSpX := fun ps M Q Ep => ∃ (g : Addr) (D : Dk) (r : Rd) (j : List Nat) (k : Nat) (x : Int) (n m : Nat), ps = [.ref g, .int x, .int n, .int m] ∧ GuAt CG CS M g D r j ∧ D.Ok ∧ Jn D k r j ∧ k ≤ 40 ∧ CallOk D r x n m ∧
  (outOf D r x = .bad → ErrAt K CB "question" (.int x) M Ep) ∧ (outOf D r x = .left → ErrAt K CR' "left" (leftOf D r) M Ep) ∧
  (outOf D r x = .told → ∀ M', LeU g M M' → GuAt CG CS M' g D (sayR D r x.toNat n m) (j ++ askT D r x.toNat ++ sayT D r x.toNat n m) → Q (I (ansN D r x.toNat n)) M')
theorem sp_gask_len (K : PySem.W.Frag) (CG CS CB CR' : Addr) : ∀ vs M Q E, sp_gask K CG CS CB CR' vs M Q E → vs.length = 4 := fun vs M Q E ⟨a, b, c, d, e, f, g, h, e', _⟩ => by rw [e']; rfl
abbrev st_x_Guard_ask : Stmt := meth 108 9
theorem sc_x_Guard_ask : FnScope ["self", "question", "draw", "second", "more", "answer"] ["self", "question", "draw", "second"] (defScope st_x_Guard_ask) := ⟨rfl, rfl, rfl, by decide +kernel, rfl, by decide +kernel, by decide +kernel⟩
theorem x_Guard_ask {C_BadQuestion : Addr} {C_Guard : Addr} {C_Refused : Addr} {C_Sitting : Addr} (F : XMStd K C_Guard "ask" "Guard.ask" st_x_Guard_ask [0, 0]) (B : BFree mg) (cl_Guard : Cls K C_Guard) (n_Guard_paid : NoAttr K C_Guard "paid") (n_Guard_seat : NoAttr K C_Guard "seat") (n_Guard_written : NoAttr K C_Guard "written") (p_Sitting_lot : PropCal P w K mg base 1 C_Sitting "lot" (toSp K (sp_slot C_Sitting))) (p_Sitting_mode : PropCal P w K mg base 1 C_Sitting "mode" (toSp K (sp_smode C_Sitting))) (x_Guard_cost : MetX P w K mg base 3 C_Guard "cost" "Guard.cost" (meth 108 8) [] ["self", "question"] (toSpX K (sp_cost K C_Guard C_Sitting C_BadQuestion C_Refused))) (q_Sitting_ask : MetD P w K mg base 3 C_Sitting "ask" "Sitting.ask" (meth 106 9) [0, 0] ["self", "question", "draw", "second"] (toSp K (sp_sask C_Sitting))) (c_ask_line : C8.Cal P w K mg base 3 "ask_line" (toSp K sp_ask) []) (c_say_line : C8.Cal P w K mg base 3 "say_line" (toSp K sp_say) []) : MetX P w K mg base 4 C_Guard "ask" "Guard.ask" st_x_Guard_ask [0, 0] ["self", "question", "draw", "second"] (toSpX K (sp_gask K C_Guard C_Sitting C_BadQuestion C_Refused)) := by
  refine F.metx sc_x_Guard_ask (sp_gask_len K C_Guard C_Sitting C_BadQuestion C_Refused)  (fun f cdv A outer s H E hr tkW => ?_)
  have nd := sc_x_Guard_ask.nd
  refine ⟨_, _, (qssx_cons (qsx_setM (n := 2) (a := 0) (b := 0) (i := 4) (ks := []) x_Guard_cost hr (by decide) tkW nd rfl (by first | exact .inl rfl | exact .inr rfl) (qe_var (i := 0) rfl (by first | exact .inl rfl | exact .inr (.inl rfl) | exact .inr (.inr rfl))) (qa_cons (qe_var (i := 1) rfl (by first | exact .inl rfl | exact .inr (.inl rfl) | exact .inr (.inr rfl))) qa_nil) qk_nil (fun F => kb_0 F (fun _ _ _ _ _ _ us hl => match us, hl with | [_, _], _ => rfl)))
      (qssx_cons (qsx_of (qs_fld (C := C_Guard) cl_Guard n_Guard_paid (qe_var (i := 0) rfl (by first | exact .inl rfl | exact .inr (.inl rfl) | exact .inr (.inr rfl))) (qe_var (i := 4) rfl (by first | exact .inl rfl | exact .inr (.inl rfl) | exact .inr (.inr rfl)))))
      (qssx_cons (qsx_of (qs_fld (C := C_Guard) cl_Guard n_Guard_written (qe_var (i := 0) rfl (by first | exact .inl rfl | exact .inr (.inl rfl) | exact .inr (.inr rfl))) (qe_plusK K (qe_fld (C := C_Guard) K cl_Guard n_Guard_written (qe_var (i := 0) rfl (by first | exact .inl rfl | exact .inr (.inl rfl) | exact .inr (.inr rfl)))) (qe_callK K c_ask_line hr (by decide) rfl (qa_cons (qe_var (i := 1) rfl (by first | exact .inl rfl | exact .inr (.inl rfl) | exact .inr (.inr rfl))) (qa_cons (qe_var (i := 4) rfl (by first | exact .inl rfl | exact .inr (.inl rfl) | exact .inr (.inr rfl))) qa_nil))))))
      (qssx_cons (qsx_of (qs_set (i := 5) nd rfl (by first | exact .inl rfl | exact .inr rfl) (qe_md (n := 4) (a := 2) (b := 0) (ks := []) q_Sitting_ask hr (by decide) (qe_fld (C := C_Guard) K cl_Guard n_Guard_seat (qe_var (i := 0) rfl (by first | exact .inl rfl | exact .inr (.inl rfl) | exact .inr (.inr rfl)))) (qa_cons (qe_var (i := 1) rfl (by first | exact .inl rfl | exact .inr (.inl rfl) | exact .inr (.inr rfl))) (qa_cons (qe_var (i := 2) rfl (by first | exact .inl rfl | exact .inr (.inl rfl) | exact .inr (.inr rfl))) (qa_cons (qe_var (i := 3) rfl (by first | exact .inl rfl | exact .inr (.inl rfl) | exact .inr (.inr rfl))) qa_nil))) qk_nil (fun F => kb_d F 4 [] 2 0 (by simp) (fun T _ _ _ _ _ _ us its ws h1 h2 h3 => match us, h1, its, h2, ws, h3 with | [_, _, _, _], _, [_, _], _, [], _ => ⟨_, rfl, rfl⟩)))))
      (qssx_cons (qsx_of (qs_fld (C := C_Guard) cl_Guard n_Guard_written (qe_var (i := 0) rfl (by first | exact .inl rfl | exact .inr (.inl rfl) | exact .inr (.inr rfl))) (qe_plusK K (qe_fld (C := C_Guard) K cl_Guard n_Guard_written (qe_var (i := 0) rfl (by first | exact .inl rfl | exact .inr (.inl rfl) | exact .inr (.inr rfl)))) (qe_callK K c_say_line hr (by decide) rfl (qa_cons (qe_var (i := 5) rfl (by first | exact .inl rfl | exact .inr (.inl rfl) | exact .inr (.inr rfl))) (qa_cons (qe_prop p_Sitting_mode hr (by decide) (qe_fld (C := C_Guard) K cl_Guard n_Guard_seat (qe_var (i := 0) rfl (by first | exact .inl rfl | exact .inr (.inl rfl) | exact .inr (.inr rfl))))) (qa_cons (qe_prop p_Sitting_lot hr (by decide) (qe_fld (C := C_Guard) K cl_Guard n_Guard_seat (qe_var (i := 0) rfl (by first | exact .inl rfl | exact .inr (.inl rfl) | exact .inr (.inr rfl))))) qa_nil)))))))
      (qssx_one (qsx_of (qs_ret (qe_var (i := 5) rfl (by first | exact .inl rfl | exact .inr (.inl rfl) | exact .inr (.inr rfl))))))))))), fun vs M Q Ep h => ?_⟩
  obtain ⟨g, D, r, j, k, x, n, m, rfl, ⟨dx, st, hm, hs⟩, ok, hj, hk, hc, k1, k2, k3⟩ := h
  walk_at "s"
  obtain ⟨dy, hs'⟩ := hs
  have hgs : g ≠ st := fun e => by
    rw [e, hs'] at hm
    have e2 := Option.some.inj hm
    injection e2 with _ _ e3
    cases congrArg List.length e3
  refine ⟨dx, _, hm, rfl, rfl, rfl, g, D, r, j, k, x, rfl, ⟨dx, st, hm, dy, hs'⟩, ok, hj.ok, by omega, hj.nb, fun h d M' l hd => ⟨M', Le.refl, k1 h d M' l hd⟩, fun h d M' l hd => ⟨M', Le.refl, k2 h d M' l hd⟩, fun ht => ?_⟩
  obtain ⟨⟨h0, hx⟩, hb⟩ := told_iff.mp ht
  obtain ⟨xn, rfl⟩ := Int.eq_ofNat_of_zero_le h0
  have k4 := k3 ht
  rw [Int.toNat_natCast] at k4 ⊢
  have hx' : xn < (qsOf D r.mode).length := by omega
  obtain ⟨c, c1, c2, c3, pb, pp⟩ := payOf_ok ok hj.ok hx'
  obtain ⟨a1, a2, a3, a4, a5⟩ := ans_lt ok hj.ok hx' hc
  obtain ⟨⟨kk, hkk⟩, _⟩ := id ok.h
  have hll := hkk.ll
  have hml := hkk.ml
  have hql := Dk.qlen ok hj.ok.mode
  have j1 := hj.ask ok (by omega) ht
  have j2 := j1.say ok hj.ok (by omega) hx' hc
  have b1 := j1.ln
  have b2 := j2.ln
  rw [List.length_append] at b2
  rw [List.length_append] at b1 b2
  refine ⟨dx, _, hm, (show 6 < 1000 by decide), fun M1 l1 m1 => ⟨dx, _, _, m1, rfl, ?_⟩⟩
  refine ⟨xn, (payOf D r xn).1.toNat, (payOf D r xn).2.toNat, by rw [Int.toNat_of_nonneg (Int.le_of_lt pp), Int.toNat_of_nonneg (Int.le_of_lt pb.2.1)], lt14 (by omega), toNat_lt pb.1 (by omega), toNat_lt pb.2.2 (by omega), ?_⟩
  refine cat_T (b := askT D r xn) (by omega) ⟨dx, _, m1, (show 6 < 1000 by decide), fun M2 l2 m2 => ?_⟩
  have hs2 := l2 _ _ hgs.symm (l1 _ _ hgs.symm hs')
  refine ⟨dx, _, _, m2, rfl, dy, _, hs2, rfl, rfl, rfl, st, D, r, k, xn, n, m, rfl, ⟨dy, hs2⟩, ok, hj.ok, by omega, hx', hc, fun M3 l3 hs3 => ?_⟩
  have m3 := l3 _ _ hgs m2
  obtain ⟨dz, hs3'⟩ := hs3
  refine ⟨dx, _, _, m3, rfl, ?_⟩
  refine ⟨dx, _, _, m3, rfl, dz, _, hs3', st, D.h.p, D.st, _, rfl, ⟨dz, hs3'⟩, dx, _, _, m3, rfl, dz, _, hs3', st, D.h.p, D.st, _, rfl, ⟨dz, hs3'⟩, ?_⟩
  refine ⟨ansN D r xn n, (goN D r xn n).1, hidN D r xn n m, rfl, lt14 (by omega), lt14 (by have := a4.1; omega), lt14 (by omega), ?_⟩
  refine cat_T (b := sayT D r xn n m) (by rw [List.length_append]; omega) ⟨dx, _, m3, (show 6 < 1000 by decide), fun M4 l4 m4 => ⟨M4, Le.refl, ?_⟩⟩
  refine k4 M4 (fun st' hst' b o hb1 hb2 hb => by
    rw [seat_of hm] at hst'
    cases hst'
    exact l4 b o hb1 (l3 b o hb2 (l2 b o hb1 (l1 b o hb1 hb)))) ⟨dx, st, ?_, dz, l4 _ _ hgs.symm hs3'⟩
  rw [m4]
  rfl
end
end CR

set_option Elab.async false
set_option linter.all false
set_option maxRecDepth 100000
set_option maxHeartbeats 4000000
set_option exponentiation.threshold 300000
namespace CR
open PySem PySem.Spec L2
local macro_rules | `(tactic| walk_at "s") => `(tactic| dsimp only [fRet, fSeq, fCut, fAsg, fDrop, fIfS, fNext, fBreak, fCont, fVar, fC, fOp, fCall, fCons, fNil, fCB, fBMS, fBML, fTup, fLst, fTest, fNot, fAnd, fOr, fAndV, fOrV, fNotV, fIf, fNeg, fChain, fGName, fGTup, fGCons, fGNil, fAugI, fSl, fPart, fNoPart, fRevL, fLstRg, fRepl, fFld, fSFld, fMeth, fProp, fPropSet, fMake, fMakeV, fCMeth, fGSub, fAugSub, fISeq, fIStr, fIRng1, fIRng2, fFor, fWhile, fLc, fYes, fIsi, fOf, fSeqX, fIfX, fRaise, fSetMX, fTry, fFldX, fIsX, fCMK, fMD, nth, lawS, startP, setS, clrS, wipeS, fnEnds, pI0, pI])
local macro_rules | `(tactic| walk_at "d") => `(tactic| try dsimp only)
section
variable {P : Program} {w : World} {K : PySem.W.Frag} {mg : Str → Option Value} {base : Heap}
open SX
theorem eq_i {i j : Int} {M : Mp} {Q : KE} (q : Q (.bl (decide (i = j))) M) : pEqX (.int i) (.int j) M Q := q
theorem ne_i {i j : Int} {M : Mp} {Q : KE} (q : Q (.bl (!decide (i = j))) M) : pNeX (.int i) (.int j) M Q := q
theorem eq_s {i j : Str} {M : Mp} {Q : KE} (q : Q (.bl (decide (i = j))) M) : pEqX (.str i) (.str j) M Q := q
theorem ne_s {i j : Str} {M : Mp} {Q : KE} (q : Q (.bl (!decide (i = j))) M) : pNeX (.str i) (.str j) M Q := q
def outV (D : Dk) (r : Rd) (x : Int) (n : Nat) : CR.P := match outOf D r x with
  | .bad => .int x
  | .left => leftOf D r
  | .told => I (ansN D r x.toNat n)
def outW (D : Dk) (r : Rd) (x : Int) : Str := match outOf D r x with
  | .bad => "bad"
  | .left => "left"
  | .told => "told"
def outR (D : Dk) (r : Rd) (x : Int) (n m : Nat) : Rd := match outOf D r x with
  | .told => sayR D r x.toNat n m
  | _ => r
def outJ (D : Dk) (r : Rd) (j : List Nat) (x : Int) (n m : Nat) : List Nat := match outOf D r x with
  | .told => j ++ askT D r x.toNat ++ sayT D r x.toNat n m
  | _ => j
def dueP (D : Dk) (r : Rd) (j : List Nat) (x : Int) (n m : Nat) : CR.P := .tup [.str (outW D r x), outV D r x n, lawP5 (outR D r x n m) (outJ D r j x n m)]
def sp_call : PSp := fun ps M Q => ∃ (D : Dk) (ns : List Nat) (dk : Addr) (r : Rd) (j : List Nat) (k : Nat) (x : Int) (n m : Nat), ps = [.ref dk, lawP5 r j, .tup [.int x, .int n, .int m]] ∧ M dk = some (.lst (deskL D ns)) ∧ D.Ok ∧ Jn D k r j ∧ k ≤ 40 ∧ CallOk D r x n m ∧ Q (dueP D r j x n m) M
theorem sp_call_len : ∀ vs M Q, sp_call vs M Q → vs.length = 3 := fun vs M Q ⟨a, b, c, d, e, f, g, h, i, e', _⟩ => by rw [e']; rfl
abbrev s__law_call : Stmt := top 148
theorem sc__law_call : FnScope ["desk", "held_v", "call", "house", "x", "paid", "ask", "a", "goes", "hidden", "text"] ["desk", "held_v", "call"] (defScope s__law_call) := ⟨rfl, rfl, rfl, by decide +kernel, rfl, by decide +kernel, by decide +kernel⟩
theorem c__law_call (F : Std K mg "_law_call" s__law_call) (B : BFree mg) (hnd : base.NoDigits) (c__law_less : C8.Cal P w K mg base 1 "_law_less" (toSp K sp_less) []) (c__law_line : C8.Cal P w K mg base 1 "_law_line" (toSp K sp_line) []) (c__law_number : C8.Cal P w K mg base 1 "_law_number" (toSp K sp_number) []) (c__law_over : C8.Cal P w K mg base 3 "_law_over" (toSp K sp_over) []) (c__law_times : C8.Cal P w K mg base 3 "_law_times" (toSp K sp_times) []) : C8.Cal P w K mg base 4 "_law_call" (toSp K sp_call) [] := by
  refine F.cal sc__law_call sp_call_len (fun _ _ _ _ _ _ us hl => match us, hl with | [_, _, _], _ => rfl) (fun f cdv A outer s H E hr => ?_)
  have nd := sc__law_call.nd
  refine ⟨_, _, (qss_cons (qs_set (i := 3) nd rfl (by first | exact .inl rfl | exact .inr rfl) (qe_ixK K (qe_var (i := 0) rfl (by first | exact .inl rfl | exact .inr (.inl rfl) | exact .inr (.inr rfl))) qe_int))
      (qss_cons (qs_set (i := 4) nd rfl (by first | exact .inl rfl | exact .inr rfl) (qe_ixK K (qe_var (i := 2) rfl (by first | exact .inl rfl | exact .inr (.inl rfl) | exact .inr (.inr rfl))) qe_int))
      (qss_cons (qs_if (qt_not (qt_chain op_le op_lt ar_le ar_lt qe_int (qe_var (i := 4) rfl (by first | exact .inl rfl | exact .inr (.inl rfl) | exact .inr (.inr rfl))) (qe_callBK K ac_len call_len rfl B.f_len PySem.boot_len (qa_cons (qe_ixK K (qe_ixK K (qe_var (i := 3) rfl (by first | exact .inl rfl | exact .inr (.inl rfl) | exact .inr (.inr rfl))) qe_int) (qe_ixK K (qe_var (i := 1) rfl (by first | exact .inl rfl | exact .inr (.inl rfl) | exact .inr (.inr rfl))) qe_int)) qa_nil)))) (qss_one (qs_ret (qe_tup (qa_cons qe_str (qa_cons (qe_var (i := 4) rfl (by first | exact .inl rfl | exact .inr (.inl rfl) | exact .inr (.inr rfl))) (qa_cons (qe_var (i := 1) rfl (by first | exact .inl rfl | exact .inr (.inl rfl) | exact .inr (.inr rfl))) qa_nil)))))) qss_nil)
      (qss_cons (qs_set (i := 5) nd rfl (by first | exact .inl rfl | exact .inr rfl) (qe_callK K c__law_times hr (by decide) rfl (qa_cons (qe_ixK K (qe_var (i := 1) rfl (by first | exact .inl rfl | exact .inr (.inl rfl) | exact .inr (.inr rfl))) qe_int) (qa_cons (qe_ixK K (qe_ixK K (qe_ixK K (qe_var (i := 0) rfl (by first | exact .inl rfl | exact .inr (.inl rfl) | exact .inr (.inr rfl))) qe_int) (qe_ixK K (qe_var (i := 1) rfl (by first | exact .inl rfl | exact .inr (.inl rfl) | exact .inr (.inr rfl))) qe_int)) (qe_var (i := 4) rfl (by first | exact .inl rfl | exact .inr (.inl rfl) | exact .inr (.inr rfl)))) qa_nil))))
      (qss_cons (qs_if (qt_val (qe_callK K c__law_less hr (by decide) rfl (qa_cons (qe_ixK K (qe_var (i := 0) rfl (by first | exact .inl rfl | exact .inr (.inl rfl) | exact .inr (.inr rfl))) qe_int) (qa_cons (qe_var (i := 5) rfl (by first | exact .inl rfl | exact .inr (.inl rfl) | exact .inr (.inr rfl))) qa_nil)))) (qss_one (qs_ret (qe_tup (qa_cons qe_str (qa_cons (qe_callK K c__law_over hr (by decide) rfl (qa_cons (qe_ixK K (qe_var (i := 0) rfl (by first | exact .inl rfl | exact .inr (.inl rfl) | exact .inr (.inr rfl))) qe_int) (qa_cons (qe_ixK K (qe_var (i := 1) rfl (by first | exact .inl rfl | exact .inr (.inl rfl) | exact .inr (.inr rfl))) qe_int) qa_nil))) (qa_cons (qe_var (i := 1) rfl (by first | exact .inl rfl | exact .inr (.inl rfl) | exact .inr (.inr rfl))) qa_nil)))))) qss_nil)
      (qss_cons (qs_set (i := 6) nd rfl (by first | exact .inl rfl | exact .inr rfl) (qe_ixK K (qe_ixK K (qe_ixK K (qe_var (i := 3) rfl (by first | exact .inl rfl | exact .inr (.inl rfl) | exact .inr (.inr rfl))) qe_int) (qe_ixK K (qe_var (i := 1) rfl (by first | exact .inl rfl | exact .inr (.inl rfl) | exact .inr (.inr rfl))) qe_int)) (qe_var (i := 4) rfl (by first | exact .inl rfl | exact .inr (.inl rfl) | exact .inr (.inr rfl)))))
      (qss_cut (qs_set (i := 7) nd rfl (by first | exact .inl rfl | exact .inr rfl) (qe_ifExp (qt_eqK K hr.units (qe_ixK K (qe_var (i := 6) rfl (by first | exact .inl rfl | exact .inr (.inl rfl) | exact .inr (.inr rfl))) qe_int) qe_str (nomark _)) (qe_ixK K (qe_ixK K (qe_ixK K (qe_var (i := 6) rfl (by first | exact .inl rfl | exact .inr (.inl rfl) | exact .inr (.inr rfl))) qe_int) (qe_ixK K (qe_var (i := 0) rfl (by first | exact .inl rfl | exact .inr (.inl rfl) | exact .inr (.inr rfl))) qe_int)) (qe_ixK K (qe_var (i := 1) rfl (by first | exact .inl rfl | exact .inr (.inl rfl) | exact .inr (.inr rfl))) qe_int)) (qe_callK K c__law_number hr (by decide) rfl (qa_cons (qe_ixK K (qe_ixK K (qe_var (i := 6) rfl (by first | exact .inl rfl | exact .inr (.inl rfl) | exact .inr (.inr rfl))) qe_int) (qe_ixK K (qe_var (i := 0) rfl (by first | exact .inl rfl | exact .inr (.inl rfl) | exact .inr (.inr rfl))) qe_int)) (qa_cons (qe_ixK K (qe_var (i := 2) rfl (by first | exact .inl rfl | exact .inr (.inl rfl) | exact .inr (.inr rfl))) qe_int) qa_nil)))))
      (qss_cons (qs_set (i := 8) nd rfl (by first | exact .inl rfl | exact .inr rfl) (qe_ixK K (qe_ixK K (qe_var (i := 6) rfl (by first | exact .inl rfl | exact .inr (.inl rfl) | exact .inr (.inr rfl))) qe_int) (qe_var (i := 7) rfl (by first | exact .inl rfl | exact .inr (.inl rfl) | exact .inr (.inr rfl)))))
      (qss_cut (qs_set (i := 9) nd rfl (by first | exact .inl rfl | exact .inr rfl) (qe_ifExp (qt_eqK K hr.units (qe_ixK K (qe_var (i := 8) rfl (by first | exact .inl rfl | exact .inr (.inl rfl) | exact .inr (.inr rfl))) qe_int) qe_int (nomark _)) (qe_callK K c__law_number hr (by decide) rfl (qa_cons (qe_ixK K (qe_var (i := 3) rfl (by first | exact .inl rfl | exact .inr (.inl rfl) | exact .inr (.inr rfl))) qe_int) (qa_cons (qe_ixK K (qe_var (i := 2) rfl (by first | exact .inl rfl | exact .inr (.inl rfl) | exact .inr (.inr rfl))) qe_int) qa_nil))) (qe_ixK K (qe_var (i := 1) rfl (by first | exact .inl rfl | exact .inr (.inl rfl) | exact .inr (.inr rfl))) qe_int)))
      (qss_cons (qs_set (i := 10) nd rfl (by first | exact .inl rfl | exact .inr rfl) (qe_plusK K (qe_ixK K (qe_var (i := 1) rfl (by first | exact .inl rfl | exact .inr (.inl rfl) | exact .inr (.inr rfl))) qe_int) (qe_callK K c__law_line hr (by decide) rfl (qa_cons (qe_plusK K (qe_plusK K (qe_plusK K (qe_plusK K (qe_plusK K qe_str (qe_callTyK K ac_strB (cr_strB hnd hr.hd) rfl B.f_str (by decide +kernel) (qa_cons (qe_var (i := 4) rfl (by first | exact .inl rfl | exact .inr (.inl rfl) | exact .inr (.inr rfl))) qa_nil))) qe_str) (qe_callTyK K ac_strB (cr_strB hnd hr.hd) rfl B.f_str (by decide +kernel) (qa_cons (qe_ixK K (qe_var (i := 5) rfl (by first | exact .inl rfl | exact .inr (.inl rfl) | exact .inr (.inr rfl))) qe_int) qa_nil))) qe_str) (qe_callTyK K ac_strB (cr_strB hnd hr.hd) rfl B.f_str (by decide +kernel) (qa_cons (qe_ixK K (qe_var (i := 5) rfl (by first | exact .inl rfl | exact .inr (.inl rfl) | exact .inr (.inr rfl))) qe_int) qa_nil))) qa_nil))))
      (qss_cons (qs_set (i := 10) nd rfl (by first | exact .inl rfl | exact .inr rfl) (qe_plusK K (qe_var (i := 10) rfl (by first | exact .inl rfl | exact .inr (.inl rfl) | exact .inr (.inr rfl))) (qe_callK K c__law_line hr (by decide) rfl (qa_cons (qe_plusK K (qe_plusK K (qe_plusK K (qe_plusK K (qe_plusK K qe_str (qe_callTyK K ac_strB (cr_strB hnd hr.hd) rfl B.f_str (by decide +kernel) (qa_cons (qe_var (i := 7) rfl (by first | exact .inl rfl | exact .inr (.inl rfl) | exact .inr (.inr rfl))) qa_nil))) qe_str) (qe_callTyK K ac_strB (cr_strB hnd hr.hd) rfl B.f_str (by decide +kernel) (qa_cons (qe_ixK K (qe_var (i := 8) rfl (by first | exact .inl rfl | exact .inr (.inl rfl) | exact .inr (.inr rfl))) qe_int) qa_nil))) qe_str) (qe_callTyK K ac_strB (cr_strB hnd hr.hd) rfl B.f_str (by decide +kernel) (qa_cons (qe_var (i := 9) rfl (by first | exact .inl rfl | exact .inr (.inl rfl) | exact .inr (.inr rfl))) qa_nil))) qa_nil))))
      (qss_one (qs_ret (qe_tup (qa_cons qe_str (qa_cons (qe_var (i := 7) rfl (by first | exact .inl rfl | exact .inr (.inl rfl) | exact .inr (.inr rfl))) (qa_cons (qe_tup (qa_cons (qe_ixK K (qe_var (i := 8) rfl (by first | exact .inl rfl | exact .inr (.inl rfl) | exact .inr (.inr rfl))) qe_int) (qa_cons (qe_var (i := 9) rfl (by first | exact .inl rfl | exact .inr (.inl rfl) | exact .inr (.inr rfl))) (qa_cons (qe_plusK K (qe_ixK K (qe_var (i := 1) rfl (by first | exact .inl rfl | exact .inr (.inl rfl) | exact .inr (.inr rfl))) qe_int) (qe_tup (qa_cons (qe_tup (qa_cons (qe_var (i := 4) rfl (by first | exact .inl rfl | exact .inr (.inl rfl) | exact .inr (.inr rfl))) (qa_cons (qe_var (i := 7) rfl (by first | exact .inl rfl | exact .inr (.inl rfl) | exact .inr (.inr rfl))) qa_nil))) qa_nil))) (qa_cons (qe_var (i := 5) rfl (by first | exact .inl rfl | exact .inr (.inl rfl) | exact .inr (.inr rfl))) (qa_cons (qe_var (i := 10) rfl (by first | exact .inl rfl | exact .inr (.inl rfl) | exact .inr (.inr rfl))) qa_nil)))))) qa_nil))))))))))))))))), fun vs M Q h => ?_⟩
  obtain ⟨D, ns, dk, r, j, k, x, n, m, rfl, hdk, ok, hj, hk, hc, kQ⟩ := h
  obtain ⟨em, er, el⟩ := Dk.mode ok hj.ok.mode
  have kB : ¬ (0 ≤ x ∧ x < (qsOf D r.mode).length) → ∃ M'', Le M'' M ∧ Q (.tup [.str "bad", .int x, lawP5 r j]) M'' := fun h => ⟨M, Le.refl, by
    unfold dueP outR outJ outW outV at kQ
    rw [bad_iff.mpr h] at kQ
    exact kQ⟩
  walk_at "s"
  refine ix_l hdk (by decide) rfl (i0 ⟨fun h1 => i4 (i0 (ixm em (len_t ?_))), fun h1 => ⟨fun h => (by cases h), fun _ => kB fun h => absurd h.1 (of_decide_eq_false h1)⟩⟩)
  rw [List.length_map]
  refine ⟨fun h2 => ?_, fun h2 => kB fun h => absurd h.2 (of_decide_eq_false h2)⟩
  have h1' := of_decide_eq_true h1
  have h2' := of_decide_eq_true h2
  obtain ⟨xn, rfl⟩ := Int.eq_ofNat_of_zero_le h1'
  have hx : xn < (qsOf D r.mode).length := by omega
  obtain ⟨c, c1, c2, c3, pb, pp⟩ := payOf_ok ok hj.ok hx
  have pf := pb.frb (by omega) (by omega)
  refine i3 (ix_l hdk (by decide) rfl (i0 (ixm er (ixm c1 ?_))))
  refine ⟨r.n, r.d, c.1, c.2, rfl, hj.ok.bt.frb (by omega) (by omega), c3.frb, ix_l hdk (by decide) rfl ?_⟩
  have e : nfr (r.n * c.1) (r.d * c.2) = fr (payOf D r xn).1 (payOf D r xn).2 := by rw [c2]; rfl
  rw [e]
  refine ⟨D.bn, D.bd, (payOf D r xn).1, (payOf D r xn).2, rfl, ok.b.frb, pf, fun h3 => ?_, fun h3 => ?_⟩
  · refine ix_l hdk (by decide) rfl (i3 ⟨D.bn, D.bd, r.n, r.d, rfl, ok.b.frb, hj.ok.bt.frb (by omega) (by omega), hj.ok.pos, nlt hj.nb (by decide), M, Le.refl, ?_⟩)
    have ho : outOf D r xn = .left := left_iff.mpr ⟨⟨h1', h2'⟩, by rw [Int.toNat_natCast]; exact of_decide_eq_true h3⟩
    unfold dueP outR outJ outW outV at kQ
    rw [ho] at kQ
    exact kQ
  have ho : outOf D r xn = .told := told_iff.mpr ⟨⟨h1', h2'⟩, by rw [Int.toNat_natCast]; exact of_decide_eq_false h3⟩
  obtain ⟨q, row, e1, e2, e3, e4, e5, hl, hd, hs, hg, hgo⟩ := quest_st ok hj.ok hx
  obtain ⟨a1, a2, a3, a4, a5⟩ := ans_lt ok hj.ok hx hc
  obtain ⟨⟨kk, hkk⟩, _⟩ := id ok.h
  have hll := hkk.ll
  have hml := hkk.ml
  have hql := Dk.qlen ok hj.ok.mode
  have j1 := hj.ask ok (by omega) ho
  have j2 := j1.say ok hj.ok (by omega) hx hc
  have b1 := j1.ln
  have b2 := j2.ln
  rw [List.length_append] at b2
  rw [List.length_append] at b1 b2
  have hst : D.st < row.length ∨ True := .inr trivial
  refine i4 (i0 (ixm em (ixm e1 ⟨fun ρ M' => M' = M ∧ ρ = [some (.ref dk), some (lawP5 r j), some (.tup [.int xn, .int n, .int m]), some D.h.p, some (.int xn), some (fr (payOf D r xn).1 (payOf D r xn).2), some q.p, some (I (ansN D r xn n)), none, none, none], i0 (eq_s ?_), ?_⟩)))
  · rw [str_drawn]
    refine ⟨fun h => ?_, fun h => ?_⟩
    · obtain ⟨a, y1, y2, y3⟩ := hd h
      refine i1 (ix_l hdk (by decide) rfl (ixm e2 (i1 (ixm y1 ⟨rfl, ?_⟩))))
      unfold ansN
      rw [e4, h, if_pos rfl, e3, y2]
    · refine i1 (ix_l hdk (by decide) rfl (ixm e2 (i1 ⟨row, n, rfl, hl, ?_, rfl, ?_⟩)))
      · have := hc.hn (by omega) (by omega) (by rw [Int.toNat_natCast, e4]; exact h)
        rw [Int.toNat_natCast, e3] at this
        exact this
      · unfold ansN
        rw [e4, h, if_neg (by decide), e3]
  rintro ρ M' ⟨rfl, rfl⟩
  walk_at "s"
  rw [e5] at a3
  refine i2 (ixm a3 ⟨fun ρ M2 => M2 = M' ∧ ρ = [some (.ref dk), some (lawP5 r j), some (.tup [.int xn, .int n, .int m]), some D.h.p, some (.int xn), some (fr (payOf D r xn).1 (payOf D r xn).2), some q.p, some (I (ansN D r xn n)), some (.tup [I (goN D r xn n).1, I (goN D r xn n).2]), some (I (hidN D r xn n m)), none], i1 (eq_i ?_), ?_⟩)
  · refine ⟨fun h => i3 (i2 ⟨D.h.lots, m, rfl, by omega, hc.hm, rfl, ?_⟩), fun h => i1 ⟨rfl, ?_⟩⟩
    · have h' : (goN D r xn n).2 = 1 := by have := of_decide_eq_true h; omega
      unfold hidN
      rw [if_pos h']
    · have h' : ¬ (goN D r xn n).2 = 1 := by have := of_decide_eq_false h; omega
      unfold hidN
      rw [if_neg h']
  rintro ρ M2 ⟨rfl, rfl⟩
  walk_at "s"
  have lx := nL_le (lt14 (n := xn) (by omega))
  have l1 := nL_le (toNat_lt pb.1 (b := 14000) (by omega))
  have l2 := nL_le (toNat_lt pb.2.2 (b := 14000) (by omega))
  have la := nL_le (lt14 (n := ansN D r xn n) (by omega))
  have lg := nL_le (lt14 (n := (goN D r xn n).1) (by have := a4.1; omega))
  have lh := nL_le (lt14 (n := hidN D r xn n m) (by omega))
  have wa := askW_len xn (payOf D r xn).1.toNat (payOf D r xn).2.toNat
  have ws := sayW_len (ansN D r xn n) (goN D r xn n).1 (hidN D r xn n m)
  refine i4 (strB (lt14 (by omega)) (cat_TR (b := [97, 115, 107, 32]) rfl (by show 4 + _ ≤ _; omega) (cat_TL (b := [32]) rfl (by simp only [List.length_append, List.length_cons, List.length_nil]; omega) (i0 (strI (Int.le_of_lt pp) (toNat_lt pb.1 (by omega)) (cat_T (by simp only [List.length_append, List.length_cons, List.length_nil]; omega) (cat_TL (b := [47]) rfl (by simp only [List.length_append, List.length_cons, List.length_nil]; omega) (i1 (strI (Int.le_of_lt pb.2.1) (toNat_lt pb.2.2 (by omega)) (cat_T (by simp only [List.length_append, List.length_cons, List.length_nil]; omega) ?_)))))))))) 
  rw [askW_eq]
  refine ⟨_, rfl, by rw [wa]; omega, cat_T (b := askT D r xn) (by omega) ?_⟩
  refine strB (lt14 (by omega)) (cat_TR (b := [115, 97, 121, 32]) rfl (by show 4 + _ ≤ _; omega) (cat_TL (b := [32]) rfl (by simp only [List.length_append, List.length_cons, List.length_nil]; omega) (i0 (strB (lt14 (by have := a4.1; omega)) (cat_T (by simp only [List.length_append, List.length_cons, List.length_nil]; omega) (cat_TL (b := [32]) rfl (by simp only [List.length_append, List.length_cons, List.length_nil]; omega) (strB (lt14 (by omega)) (cat_T (by simp only [List.length_append, List.length_cons, List.length_nil]; omega) ?_))))))))
  rw [sayW_eq]
  refine ⟨_, rfl, by rw [ws]; omega, cat_T (b := sayT D r xn n m) (by rw [List.length_append]; omega) ?_⟩
  refine i0 (i2 (cat_t (szl _ ?_) ⟨M2, Le.refl, ?_⟩))
  · rw [List.length_map]
    have := hj.ok.tk
    show _ + 1 < _
    omega
  · have e : r.talk.map (fun g => CR.P.tup [I g.1, I g.2]) ++ [.tup [I xn, I (ansN D r xn n)]] = (r.talk ++ [(xn, ansN D r xn n)]).map (fun g => CR.P.tup [I g.1, I g.2]) := by rw [List.map_append]; rfl
    unfold dueP outR outJ outW outV at kQ
    rw [ho] at kQ
    dsimp only at kQ
    rw [Int.toNat_natCast] at kQ
    have e6 : (CR.P.tup [CR.P.tup [.int xn, I (ansN D r xn n)]]) = CR.P.tup [.tup [I xn, I (ansN D r xn n)]] := rfl
    show Q (.tup [.str "told", I (ansN D r xn n), .tup [I (goN D r xn n).1, I (hidN D r xn n m), .tup (r.talk.map (fun g => CR.P.tup [I g.1, I g.2]) ++ [.tup [I xn, I (ansN D r xn n)]]), _, _]]) M2
    rw [e]
    exact kQ
def sp_askedl (K : PySem.W.Frag) (CG CS CB CR' : Addr) : PSp := fun ps M Q => ∃ (g : Addr) (D : Dk) (r : Rd) (j : List Nat) (k : Nat) (x style : Int) (n m : Nat), ps = [.ref g, .tup [.int x, .int n, .int m], .int style] ∧ GuAt CG CS M g D r j ∧ D.Ok ∧ Jn D k r j ∧ k ≤ 40 ∧ CallOk D r x n m ∧
  ∀ M', LeU g M M' → GuAt CG CS M' g D (outR D r x n m) (outJ D r j x n m) → Q (.tup [.str (outW D r x), outV D r x n]) M'
theorem sp_askedl_len (K : PySem.W.Frag) (CG CS CB CR' : Addr) : ∀ vs M Q, sp_askedl K CG CS CB CR' vs M Q → vs.length = 3 := fun vs M Q ⟨a, b, c, d, e, f, g, h, i, e', _⟩ => by rw [e']; rfl
abbrev s__law_asked : Stmt := top 150
theorem sc__law_asked : FnScope ["guard", "call", "style", "answer", "raised"] ["guard", "call", "style"] (defScope s__law_asked) := ⟨rfl, rfl, rfl, by decide +kernel, rfl, by decide +kernel, by decide +kernel⟩
theorem c__law_asked {C_BadQuestion : Addr} {C_Guard : Addr} {C_Refused : Addr} {C_ReleaseError : Addr} {C_Sitting : Addr} (F : Std K mg "_law_asked" s__law_asked) (B : BFree mg) (g_ReleaseError : mg "ReleaseError" = some (.ref C_ReleaseError)) (er_BadQuestion : Err1 P K mg "BadQuestion" C_BadQuestion "question") (er_Refused : Err1 P K mg "Refused" C_Refused "left") (em_BadQuestion_ReleaseError : PySem.W.exmOne K (.ref C_BadQuestion) (.ref C_ReleaseError) = some true) (em_Refused_ReleaseError : PySem.W.exmOne K (.ref C_Refused) (.ref C_ReleaseError) = some true) (ki_BadQuestion_BadQuestion : PySem.W.kitOne K (.ref C_BadQuestion) (.ref C_BadQuestion) = some true) (ki_BadQuestion_Refused : PySem.W.kitOne K (.ref C_BadQuestion) (.ref C_Refused) = some false) (ki_Refused_Refused : PySem.W.kitOne K (.ref C_Refused) (.ref C_Refused) = some true) (ki_Refused_BadQuestion : PySem.W.kitOne K (.ref C_Refused) (.ref C_BadQuestion) = some false) (x_Guard_ask : MetX P w K mg base 4 C_Guard "ask" "Guard.ask" (meth 108 9) [0, 0] ["self", "question", "draw", "second"] (toSpX K (sp_gask K C_Guard C_Sitting C_BadQuestion C_Refused))) : C8.Cal P w K mg base 5 "_law_asked" (toSp K (sp_askedl K C_Guard C_Sitting C_BadQuestion C_Refused)) [] := by
  refine F.cal sc__law_asked (sp_askedl_len K C_Guard C_Sitting C_BadQuestion C_Refused) (fun _ _ _ _ _ _ us hl => match us, hl with | [_, _, _], _ => rfl) (fun f cdv A outer s H E hr => ?_)
  have nd := sc__law_asked.nd
  refine ⟨_, _, (qss_cons (qs_try rfl rfl nd (i := 4) rfl rfl ⟨rfl, by decide, .inl g_ReleaseError⟩ (fun W pn xe tkW => qssx_as (qssx_one (qsx_if (QW.t (qw_and (qt_eqK K hr.units (qe_var (i := 2) rfl (by first | exact .inl rfl | exact .inr (.inl rfl) | exact .inr (.inr rfl))) qe_int (nomark _)) (qw_and (qt_eqK K hr.units (qe_ixK K (qe_var (i := 1) rfl (by first | exact .inl rfl | exact .inr (.inl rfl) | exact .inr (.inr rfl))) qe_int) qe_int (nomark _)) (qw_and1 (qt_eqK K hr.units (qe_ixK K (qe_var (i := 1) rfl (by first | exact .inl rfl | exact .inr (.inl rfl) | exact .inr (.inr rfl))) qe_int) qe_int (nomark _)))))) (qssx_one (qsx_setM (n := 2) (a := 0) (b := 2) (i := 3) (ks := []) x_Guard_ask hr (by decide) tkW nd rfl (by first | exact .inl rfl | exact .inr rfl) (qe_var (i := 0) rfl (by first | exact .inl rfl | exact .inr (.inl rfl) | exact .inr (.inr rfl))) (qa_cons (qe_ixK K (qe_var (i := 1) rfl (by first | exact .inl rfl | exact .inr (.inl rfl) | exact .inr (.inr rfl))) qe_int) qa_nil) qk_nil (fun F => kb_d F 2 [] 0 2 (by simp) (fun T _ _ _ _ _ _ us its ws h1 h2 h3 => match us, h1, its, h2, ws, h3 with | [_, _], _, [_, _], _, [], _ => ⟨_, rfl, rfl⟩)))) (qssx_one (qsx_if (QW.t (qw_and (qt_eqK K hr.units (qe_var (i := 2) rfl (by first | exact .inl rfl | exact .inr (.inl rfl) | exact .inr (.inr rfl))) qe_int (nomark _)) (qw_and1 (qt_eqK K hr.units (qe_ixK K (qe_var (i := 1) rfl (by first | exact .inl rfl | exact .inr (.inl rfl) | exact .inr (.inr rfl))) qe_int) qe_int (nomark _))))) (qssx_one (qsx_setM (n := 2) (a := 0) (b := 1) (i := 3) (ks := ["second"]) x_Guard_ask hr (by decide) tkW nd rfl (by first | exact .inl rfl | exact .inr rfl) (qe_var (i := 0) rfl (by first | exact .inl rfl | exact .inr (.inl rfl) | exact .inr (.inr rfl))) (qa_cons (qe_ixK K (qe_var (i := 1) rfl (by first | exact .inl rfl | exact .inr (.inl rfl) | exact .inr (.inr rfl))) qe_int) qa_nil) (qk_cons (qe_ixK K (qe_var (i := 1) rfl (by first | exact .inl rfl | exact .inr (.inl rfl) | exact .inr (.inr rfl))) qe_int) qk_nil) (fun F => kb_d F 2 ["second"] 0 1 (by simp) (fun T _ _ _ _ _ _ us its ws h1 h2 h3 => match us, h1, its, h2, ws, h3 with | [_, _], _, [_, _], _, [_], _ => ⟨_, rfl, rfl⟩)))) (qssx_one (qsx_if (QW.t (qw_and (qt_eqK K hr.units (qe_var (i := 2) rfl (by first | exact .inl rfl | exact .inr (.inl rfl) | exact .inr (.inr rfl))) qe_int (nomark _)) (qw_and1 (qt_eqK K hr.units (qe_ixK K (qe_var (i := 1) rfl (by first | exact .inl rfl | exact .inr (.inl rfl) | exact .inr (.inr rfl))) qe_int) qe_int (nomark _))))) (qssx_one (qsx_setM (n := 3) (a := 1) (b := 1) (i := 3) (ks := []) x_Guard_ask hr (by decide) tkW nd rfl (by first | exact .inl rfl | exact .inr rfl) (qe_var (i := 0) rfl (by first | exact .inl rfl | exact .inr (.inl rfl) | exact .inr (.inr rfl))) (qa_cons (qe_ixK K (qe_var (i := 1) rfl (by first | exact .inl rfl | exact .inr (.inl rfl) | exact .inr (.inr rfl))) qe_int) (qa_cons (qe_ixK K (qe_var (i := 1) rfl (by first | exact .inl rfl | exact .inr (.inl rfl) | exact .inr (.inr rfl))) qe_int) qa_nil)) qk_nil (fun F => kb_d F 3 [] 1 1 (by simp) (fun T _ _ _ _ _ _ us its ws h1 h2 h3 => match us, h1, its, h2, ws, h3 with | [_, _, _], _, [_, _], _, [], _ => ⟨_, rfl, rfl⟩)))) (qssx_one (qsx_if (qt_eqK K hr.units (qe_var (i := 2) rfl (by first | exact .inl rfl | exact .inr (.inl rfl) | exact .inr (.inr rfl))) qe_int (nomark _)) (qssx_one (qsx_setM (n := 2) (a := 0) (b := 0) (i := 3) (ks := ["draw", "second"]) x_Guard_ask hr (by decide) tkW nd rfl (by first | exact .inl rfl | exact .inr rfl) (qe_var (i := 0) rfl (by first | exact .inl rfl | exact .inr (.inl rfl) | exact .inr (.inr rfl))) (qa_cons (qe_ixK K (qe_var (i := 1) rfl (by first | exact .inl rfl | exact .inr (.inl rfl) | exact .inr (.inr rfl))) qe_int) qa_nil) (qk_cons (qe_ixK K (qe_var (i := 1) rfl (by first | exact .inl rfl | exact .inr (.inl rfl) | exact .inr (.inr rfl))) qe_int) (qk_cons (qe_ixK K (qe_var (i := 1) rfl (by first | exact .inl rfl | exact .inr (.inl rfl) | exact .inr (.inr rfl))) qe_int) qk_nil)) (fun F => kb_d F 2 ["draw", "second"] 0 0 (by simp) (fun T _ _ _ _ _ _ us its ws h1 h2 h3 => match us, h1, its, h2, ws, h3 with | [_, _], _, [_, _], _, [_, _], _ => ⟨_, rfl, rfl⟩)))) (qssx_one (qsx_setM (n := 4) (a := 2) (b := 0) (i := 3) (ks := []) x_Guard_ask hr (by decide) tkW nd rfl (by first | exact .inl rfl | exact .inr rfl) (qe_var (i := 0) rfl (by first | exact .inl rfl | exact .inr (.inl rfl) | exact .inr (.inr rfl))) (qa_cons (qe_ixK K (qe_var (i := 1) rfl (by first | exact .inl rfl | exact .inr (.inl rfl) | exact .inr (.inr rfl))) qe_int) (qa_cons (qe_ixK K (qe_var (i := 1) rfl (by first | exact .inl rfl | exact .inr (.inl rfl) | exact .inr (.inr rfl))) qe_int) (qa_cons (qe_ixK K (qe_var (i := 1) rfl (by first | exact .inl rfl | exact .inr (.inl rfl) | exact .inr (.inr rfl))) qe_int) qa_nil))) qk_nil (fun F => kb_d F 4 [] 2 0 (by simp) (fun T _ _ _ _ _ _ us its ws h1 h2 h3 => match us, h1, its, h2, ws, h3 with | [_, _, _, _], _, [_, _], _, [], _ => ⟨_, rfl, rfl⟩)))))))))))) (by first | rfl | dsimp only [L2.Cx.tr, L2.Cx.nox, L2.Cx.suite, L2.cxOf]) (by first | rfl | dsimp only [L2.Cx.tr, L2.Cx.nox, L2.Cx.suite, L2.cxOf])) (fun a oe cls d pn hz hd => qss_as (qss_cons (qs_if (QW.t (qw_and (qt_val (qe_isX hz hd rfl B.f_isinstance (by decide +kernel) rfl er_BadQuestion.g (qe_var (i := 4) rfl (by first | exact .inl rfl | exact .inr (.inl rfl) | exact .inr (.inr rfl))))) (qw_and1 (qt_not (qt_val (qe_isX hz hd rfl B.f_isinstance (by decide +kernel) rfl er_Refused.g (qe_var (i := 4) rfl (by first | exact .inl rfl | exact .inr (.inl rfl) | exact .inr (.inr rfl))))))))) (qss_one (qs_ret (qe_tup (qa_cons qe_str (qa_cons (qe_fldX er_BadQuestion.t.choose_spec hz hd (qe_var (i := 4) rfl (by first | exact .inl rfl | exact .inr (.inl rfl) | exact .inr (.inr rfl)))) qa_nil))))) qss_nil)
      (qss_cons (qs_if (QW.t (qw_and (qt_val (qe_isX hz hd rfl B.f_isinstance (by decide +kernel) rfl er_Refused.g (qe_var (i := 4) rfl (by first | exact .inl rfl | exact .inr (.inl rfl) | exact .inr (.inr rfl))))) (qw_and1 (qt_not (qt_val (qe_isX hz hd rfl B.f_isinstance (by decide +kernel) rfl er_BadQuestion.g (qe_var (i := 4) rfl (by first | exact .inl rfl | exact .inr (.inl rfl) | exact .inr (.inr rfl))))))))) (qss_one (qs_ret (qe_tup (qa_cons qe_str (qa_cons (qe_fldX er_Refused.t.choose_spec hz hd (qe_var (i := 4) rfl (by first | exact .inl rfl | exact .inr (.inl rfl) | exact .inr (.inr rfl)))) qa_nil))))) qss_nil)
      (qss_one (qs_ret (qe_tup (qa_cons qe_str (qa_cons qe_int qa_nil))))))) (by first | rfl | dsimp only [L2.Cx.tr, L2.Cx.nox, L2.Cx.suite, L2.cxOf]) (by first | rfl | dsimp only [L2.Cx.tr, L2.Cx.nox, L2.Cx.suite, L2.cxOf])))
      (qss_one (qs_ret (qe_tup (qa_cons qe_str (qa_cons (qe_var (i := 3) rfl (by first | exact .inl rfl | exact .inr (.inl rfl) | exact .inr (.inr rfl))) qa_nil)))))), fun vs M Q h => ?_⟩
  obtain ⟨g, D, r, j, k, x, style, n, m, rfl, hg, ok, hj, hk, hc, kQ⟩ := h
  obtain ⟨dx, st, hm, hs⟩ := id hg
  have kB : outOf D r x = .bad → ∀ M', Le M M' → Q (.tup [.str "bad", .int x]) M' := fun h M' l => by
    have := kQ M' (LeU.of_le l)
    unfold outR outJ outW outV at this
    rw [h] at this
    exact this (hg.le l)
  have kL : outOf D r x = .left → ∀ M', Le M M' → Q (.tup [.str "left", leftOf D r]) M' := fun h M' l => by
    have := kQ M' (LeU.of_le l)
    unfold outR outJ outW outV at this
    rw [h] at this
    exact this (hg.le l)
  have kT : outOf D r x = .told → ∀ M', LeU g M M' → GuAt C_Guard C_Sitting M' g D (sayR D r x.toNat n m) (j ++ askT D r x.toNat ++ sayT D r x.toNat n m) → Q (.tup [.str "told", I (ansN D r x.toNat n)]) M' := fun h M' l => by
    have := kQ M' l
    unfold outR outJ outW outV at this
    rw [h] at this
    exact this
  have z0 : ∀ {i : Nat}, decide ((i : Int) = 0) = true → i = 0 := fun h => by
    have := of_decide_eq_true h
    omega
  walk_at "s"
  exact eq_i ⟨fun _ => i1 (eq_i ⟨fun s2 => i2 (eq_i ⟨fun s3 => ⟨dx, _, hm, rfl, i0 (⟨rfl, rfl, g, D, r, j, k, x, n, m, (by rw [z0 s2, z0 s3]; rfl), hg, ok, hj, hk, hc, fun hb d M' l hd => ⟨em_BadQuestion_ReleaseError, fun a => ⟨rfl, C_BadQuestion, d, _, true, rfl, rfl, er_BadQuestion.e, hd, ki_BadQuestion_BadQuestion, fun _ => ⟨rfl, C_BadQuestion, d, _, false, rfl, rfl, er_BadQuestion.e, hd, ki_BadQuestion_Refused, fun h => (by cases h), fun _ => ⟨rfl, rfl, d, _, rfl, hd, M', Le.refl, kB hb M' l⟩⟩, fun h => (by cases h)⟩⟩, fun hb d M' l hd => ⟨em_Refused_ReleaseError, fun a => ⟨rfl, C_Refused, d, _, false, rfl, rfl, er_Refused.e, hd, ki_Refused_BadQuestion, fun h => (by cases h), fun _ => ⟨rfl, C_Refused, d, _, true, rfl, rfl, er_Refused.e, hd, ki_Refused_Refused, fun _ => ⟨rfl, C_Refused, d, _, false, rfl, rfl, er_Refused.e, hd, ki_Refused_BadQuestion, fun h => (by cases h), fun _ => ⟨rfl, rfl, d, _, rfl, hd, M', Le.refl, kL hb M' l⟩⟩, fun h => (by cases h)⟩⟩⟩, fun ht M' l hg' => ⟨M', Le.refl, kT ht M' l hg'⟩⟩)⟩, fun _ => (eq_i ⟨fun _ => i1 (eq_i ⟨fun a2 => ⟨dx, _, hm, rfl, i0 (i2 (⟨rfl, rfl, g, D, r, j, k, x, n, m, (by rw [z0 a2]; rfl), hg, ok, hj, hk, hc, fun hb d M' l hd => ⟨em_BadQuestion_ReleaseError, fun a => ⟨rfl, C_BadQuestion, d, _, true, rfl, rfl, er_BadQuestion.e, hd, ki_BadQuestion_BadQuestion, fun _ => ⟨rfl, C_BadQuestion, d, _, false, rfl, rfl, er_BadQuestion.e, hd, ki_BadQuestion_Refused, fun h => (by cases h), fun _ => ⟨rfl, rfl, d, _, rfl, hd, M', Le.refl, kB hb M' l⟩⟩, fun h => (by cases h)⟩⟩, fun hb d M' l hd => ⟨em_Refused_ReleaseError, fun a => ⟨rfl, C_Refused, d, _, false, rfl, rfl, er_Refused.e, hd, ki_Refused_BadQuestion, fun h => (by cases h), fun _ => ⟨rfl, C_Refused, d, _, true, rfl, rfl, er_Refused.e, hd, ki_Refused_Refused, fun _ => ⟨rfl, C_Refused, d, _, false, rfl, rfl, er_Refused.e, hd, ki_Refused_BadQuestion, fun h => (by cases h), fun _ => ⟨rfl, rfl, d, _, rfl, hd, M', Le.refl, kL hb M' l⟩⟩, fun h => (by cases h)⟩⟩⟩, fun ht M' l hg' => ⟨M', Le.refl, kT ht M' l hg'⟩⟩))⟩, fun _ => (eq_i ⟨fun _ => i2 (eq_i ⟨fun c2 => ⟨dx, _, hm, rfl, i0 (i1 (⟨rfl, rfl, g, D, r, j, k, x, n, m, (by rw [z0 c2]; rfl), hg, ok, hj, hk, hc, fun hb d M' l hd => ⟨em_BadQuestion_ReleaseError, fun a => ⟨rfl, C_BadQuestion, d, _, true, rfl, rfl, er_BadQuestion.e, hd, ki_BadQuestion_BadQuestion, fun _ => ⟨rfl, C_BadQuestion, d, _, false, rfl, rfl, er_BadQuestion.e, hd, ki_BadQuestion_Refused, fun h => (by cases h), fun _ => ⟨rfl, rfl, d, _, rfl, hd, M', Le.refl, kB hb M' l⟩⟩, fun h => (by cases h)⟩⟩, fun hb d M' l hd => ⟨em_Refused_ReleaseError, fun a => ⟨rfl, C_Refused, d, _, false, rfl, rfl, er_Refused.e, hd, ki_Refused_BadQuestion, fun h => (by cases h), fun _ => ⟨rfl, C_Refused, d, _, true, rfl, rfl, er_Refused.e, hd, ki_Refused_Refused, fun _ => ⟨rfl, C_Refused, d, _, false, rfl, rfl, er_Refused.e, hd, ki_Refused_BadQuestion, fun h => (by cases h), fun _ => ⟨rfl, rfl, d, _, rfl, hd, M', Le.refl, kL hb M' l⟩⟩, fun h => (by cases h)⟩⟩⟩, fun ht M' l hg' => ⟨M', Le.refl, kT ht M' l hg'⟩⟩))⟩, fun _ => eq_i ⟨fun _ => ⟨dx, _, hm, rfl, i0 (i1 (i2 (⟨rfl, rfl, g, D, r, j, k, x, n, m, rfl, hg, ok, hj, hk, hc, fun hb d M' l hd => ⟨em_BadQuestion_ReleaseError, fun a => ⟨rfl, C_BadQuestion, d, _, true, rfl, rfl, er_BadQuestion.e, hd, ki_BadQuestion_BadQuestion, fun _ => ⟨rfl, C_BadQuestion, d, _, false, rfl, rfl, er_BadQuestion.e, hd, ki_BadQuestion_Refused, fun h => (by cases h), fun _ => ⟨rfl, rfl, d, _, rfl, hd, M', Le.refl, kB hb M' l⟩⟩, fun h => (by cases h)⟩⟩, fun hb d M' l hd => ⟨em_Refused_ReleaseError, fun a => ⟨rfl, C_Refused, d, _, false, rfl, rfl, er_Refused.e, hd, ki_Refused_BadQuestion, fun h => (by cases h), fun _ => ⟨rfl, C_Refused, d, _, true, rfl, rfl, er_Refused.e, hd, ki_Refused_Refused, fun _ => ⟨rfl, C_Refused, d, _, false, rfl, rfl, er_Refused.e, hd, ki_Refused_BadQuestion, fun h => (by cases h), fun _ => ⟨rfl, rfl, d, _, rfl, hd, M', Le.refl, kL hb M' l⟩⟩, fun h => (by cases h)⟩⟩⟩, fun ht M' l hg' => ⟨M', Le.refl, kT ht M' l hg'⟩⟩)))⟩, fun _ => ⟨dx, _, hm, rfl, i0 (i1 (i2 (⟨rfl, rfl, g, D, r, j, k, x, n, m, rfl, hg, ok, hj, hk, hc, fun hb d M' l hd => ⟨em_BadQuestion_ReleaseError, fun a => ⟨rfl, C_BadQuestion, d, _, true, rfl, rfl, er_BadQuestion.e, hd, ki_BadQuestion_BadQuestion, fun _ => ⟨rfl, C_BadQuestion, d, _, false, rfl, rfl, er_BadQuestion.e, hd, ki_BadQuestion_Refused, fun h => (by cases h), fun _ => ⟨rfl, rfl, d, _, rfl, hd, M', Le.refl, kB hb M' l⟩⟩, fun h => (by cases h)⟩⟩, fun hb d M' l hd => ⟨em_Refused_ReleaseError, fun a => ⟨rfl, C_Refused, d, _, false, rfl, rfl, er_Refused.e, hd, ki_Refused_BadQuestion, fun h => (by cases h), fun _ => ⟨rfl, C_Refused, d, _, true, rfl, rfl, er_Refused.e, hd, ki_Refused_Refused, fun _ => ⟨rfl, C_Refused, d, _, false, rfl, rfl, er_Refused.e, hd, ki_Refused_BadQuestion, fun h => (by cases h), fun _ => ⟨rfl, rfl, d, _, rfl, hd, M', Le.refl, kL hb M' l⟩⟩, fun h => (by cases h)⟩⟩⟩, fun ht M' l hg' => ⟨M', Le.refl, kT ht M' l hg'⟩⟩)))⟩⟩⟩), fun _ => eq_i ⟨fun _ => ⟨dx, _, hm, rfl, i0 (i1 (i2 (⟨rfl, rfl, g, D, r, j, k, x, n, m, rfl, hg, ok, hj, hk, hc, fun hb d M' l hd => ⟨em_BadQuestion_ReleaseError, fun a => ⟨rfl, C_BadQuestion, d, _, true, rfl, rfl, er_BadQuestion.e, hd, ki_BadQuestion_BadQuestion, fun _ => ⟨rfl, C_BadQuestion, d, _, false, rfl, rfl, er_BadQuestion.e, hd, ki_BadQuestion_Refused, fun h => (by cases h), fun _ => ⟨rfl, rfl, d, _, rfl, hd, M', Le.refl, kB hb M' l⟩⟩, fun h => (by cases h)⟩⟩, fun hb d M' l hd => ⟨em_Refused_ReleaseError, fun a => ⟨rfl, C_Refused, d, _, false, rfl, rfl, er_Refused.e, hd, ki_Refused_BadQuestion, fun h => (by cases h), fun _ => ⟨rfl, C_Refused, d, _, true, rfl, rfl, er_Refused.e, hd, ki_Refused_Refused, fun _ => ⟨rfl, C_Refused, d, _, false, rfl, rfl, er_Refused.e, hd, ki_Refused_BadQuestion, fun h => (by cases h), fun _ => ⟨rfl, rfl, d, _, rfl, hd, M', Le.refl, kL hb M' l⟩⟩, fun h => (by cases h)⟩⟩⟩, fun ht M' l hg' => ⟨M', Le.refl, kT ht M' l hg'⟩⟩)))⟩, fun _ => ⟨dx, _, hm, rfl, i0 (i1 (i2 (⟨rfl, rfl, g, D, r, j, k, x, n, m, rfl, hg, ok, hj, hk, hc, fun hb d M' l hd => ⟨em_BadQuestion_ReleaseError, fun a => ⟨rfl, C_BadQuestion, d, _, true, rfl, rfl, er_BadQuestion.e, hd, ki_BadQuestion_BadQuestion, fun _ => ⟨rfl, C_BadQuestion, d, _, false, rfl, rfl, er_BadQuestion.e, hd, ki_BadQuestion_Refused, fun h => (by cases h), fun _ => ⟨rfl, rfl, d, _, rfl, hd, M', Le.refl, kB hb M' l⟩⟩, fun h => (by cases h)⟩⟩, fun hb d M' l hd => ⟨em_Refused_ReleaseError, fun a => ⟨rfl, C_Refused, d, _, false, rfl, rfl, er_Refused.e, hd, ki_Refused_BadQuestion, fun h => (by cases h), fun _ => ⟨rfl, C_Refused, d, _, true, rfl, rfl, er_Refused.e, hd, ki_Refused_Refused, fun _ => ⟨rfl, C_Refused, d, _, false, rfl, rfl, er_Refused.e, hd, ki_Refused_BadQuestion, fun h => (by cases h), fun _ => ⟨rfl, rfl, d, _, rfl, hd, M', Le.refl, kL hb M' l⟩⟩, fun h => (by cases h)⟩⟩⟩, fun ht M' l hg' => ⟨M', Le.refl, kT ht M' l hg'⟩⟩)))⟩⟩⟩)⟩), fun _ => (eq_i ⟨fun _ => i2 (eq_i ⟨fun c2 => ⟨dx, _, hm, rfl, i0 (i1 (⟨rfl, rfl, g, D, r, j, k, x, n, m, (by rw [z0 c2]; rfl), hg, ok, hj, hk, hc, fun hb d M' l hd => ⟨em_BadQuestion_ReleaseError, fun a => ⟨rfl, C_BadQuestion, d, _, true, rfl, rfl, er_BadQuestion.e, hd, ki_BadQuestion_BadQuestion, fun _ => ⟨rfl, C_BadQuestion, d, _, false, rfl, rfl, er_BadQuestion.e, hd, ki_BadQuestion_Refused, fun h => (by cases h), fun _ => ⟨rfl, rfl, d, _, rfl, hd, M', Le.refl, kB hb M' l⟩⟩, fun h => (by cases h)⟩⟩, fun hb d M' l hd => ⟨em_Refused_ReleaseError, fun a => ⟨rfl, C_Refused, d, _, false, rfl, rfl, er_Refused.e, hd, ki_Refused_BadQuestion, fun h => (by cases h), fun _ => ⟨rfl, C_Refused, d, _, true, rfl, rfl, er_Refused.e, hd, ki_Refused_Refused, fun _ => ⟨rfl, C_Refused, d, _, false, rfl, rfl, er_Refused.e, hd, ki_Refused_BadQuestion, fun h => (by cases h), fun _ => ⟨rfl, rfl, d, _, rfl, hd, M', Le.refl, kL hb M' l⟩⟩, fun h => (by cases h)⟩⟩⟩, fun ht M' l hg' => ⟨M', Le.refl, kT ht M' l hg'⟩⟩))⟩, fun _ => eq_i ⟨fun _ => ⟨dx, _, hm, rfl, i0 (i1 (i2 (⟨rfl, rfl, g, D, r, j, k, x, n, m, rfl, hg, ok, hj, hk, hc, fun hb d M' l hd => ⟨em_BadQuestion_ReleaseError, fun a => ⟨rfl, C_BadQuestion, d, _, true, rfl, rfl, er_BadQuestion.e, hd, ki_BadQuestion_BadQuestion, fun _ => ⟨rfl, C_BadQuestion, d, _, false, rfl, rfl, er_BadQuestion.e, hd, ki_BadQuestion_Refused, fun h => (by cases h), fun _ => ⟨rfl, rfl, d, _, rfl, hd, M', Le.refl, kB hb M' l⟩⟩, fun h => (by cases h)⟩⟩, fun hb d M' l hd => ⟨em_Refused_ReleaseError, fun a => ⟨rfl, C_Refused, d, _, false, rfl, rfl, er_Refused.e, hd, ki_Refused_BadQuestion, fun h => (by cases h), fun _ => ⟨rfl, C_Refused, d, _, true, rfl, rfl, er_Refused.e, hd, ki_Refused_Refused, fun _ => ⟨rfl, C_Refused, d, _, false, rfl, rfl, er_Refused.e, hd, ki_Refused_BadQuestion, fun h => (by cases h), fun _ => ⟨rfl, rfl, d, _, rfl, hd, M', Le.refl, kL hb M' l⟩⟩, fun h => (by cases h)⟩⟩⟩, fun ht M' l hg' => ⟨M', Le.refl, kT ht M' l hg'⟩⟩)))⟩, fun _ => ⟨dx, _, hm, rfl, i0 (i1 (i2 (⟨rfl, rfl, g, D, r, j, k, x, n, m, rfl, hg, ok, hj, hk, hc, fun hb d M' l hd => ⟨em_BadQuestion_ReleaseError, fun a => ⟨rfl, C_BadQuestion, d, _, true, rfl, rfl, er_BadQuestion.e, hd, ki_BadQuestion_BadQuestion, fun _ => ⟨rfl, C_BadQuestion, d, _, false, rfl, rfl, er_BadQuestion.e, hd, ki_BadQuestion_Refused, fun h => (by cases h), fun _ => ⟨rfl, rfl, d, _, rfl, hd, M', Le.refl, kB hb M' l⟩⟩, fun h => (by cases h)⟩⟩, fun hb d M' l hd => ⟨em_Refused_ReleaseError, fun a => ⟨rfl, C_Refused, d, _, false, rfl, rfl, er_Refused.e, hd, ki_Refused_BadQuestion, fun h => (by cases h), fun _ => ⟨rfl, C_Refused, d, _, true, rfl, rfl, er_Refused.e, hd, ki_Refused_Refused, fun _ => ⟨rfl, C_Refused, d, _, false, rfl, rfl, er_Refused.e, hd, ki_Refused_BadQuestion, fun h => (by cases h), fun _ => ⟨rfl, rfl, d, _, rfl, hd, M', Le.refl, kL hb M' l⟩⟩, fun h => (by cases h)⟩⟩⟩, fun ht M' l hg' => ⟨M', Le.refl, kT ht M' l hg'⟩⟩)))⟩⟩⟩), fun _ => eq_i ⟨fun _ => ⟨dx, _, hm, rfl, i0 (i1 (i2 (⟨rfl, rfl, g, D, r, j, k, x, n, m, rfl, hg, ok, hj, hk, hc, fun hb d M' l hd => ⟨em_BadQuestion_ReleaseError, fun a => ⟨rfl, C_BadQuestion, d, _, true, rfl, rfl, er_BadQuestion.e, hd, ki_BadQuestion_BadQuestion, fun _ => ⟨rfl, C_BadQuestion, d, _, false, rfl, rfl, er_BadQuestion.e, hd, ki_BadQuestion_Refused, fun h => (by cases h), fun _ => ⟨rfl, rfl, d, _, rfl, hd, M', Le.refl, kB hb M' l⟩⟩, fun h => (by cases h)⟩⟩, fun hb d M' l hd => ⟨em_Refused_ReleaseError, fun a => ⟨rfl, C_Refused, d, _, false, rfl, rfl, er_Refused.e, hd, ki_Refused_BadQuestion, fun h => (by cases h), fun _ => ⟨rfl, C_Refused, d, _, true, rfl, rfl, er_Refused.e, hd, ki_Refused_Refused, fun _ => ⟨rfl, C_Refused, d, _, false, rfl, rfl, er_Refused.e, hd, ki_Refused_BadQuestion, fun h => (by cases h), fun _ => ⟨rfl, rfl, d, _, rfl, hd, M', Le.refl, kL hb M' l⟩⟩, fun h => (by cases h)⟩⟩⟩, fun ht M' l hg' => ⟨M', Le.refl, kT ht M' l hg'⟩⟩)))⟩, fun _ => ⟨dx, _, hm, rfl, i0 (i1 (i2 (⟨rfl, rfl, g, D, r, j, k, x, n, m, rfl, hg, ok, hj, hk, hc, fun hb d M' l hd => ⟨em_BadQuestion_ReleaseError, fun a => ⟨rfl, C_BadQuestion, d, _, true, rfl, rfl, er_BadQuestion.e, hd, ki_BadQuestion_BadQuestion, fun _ => ⟨rfl, C_BadQuestion, d, _, false, rfl, rfl, er_BadQuestion.e, hd, ki_BadQuestion_Refused, fun h => (by cases h), fun _ => ⟨rfl, rfl, d, _, rfl, hd, M', Le.refl, kB hb M' l⟩⟩, fun h => (by cases h)⟩⟩, fun hb d M' l hd => ⟨em_Refused_ReleaseError, fun a => ⟨rfl, C_Refused, d, _, false, rfl, rfl, er_Refused.e, hd, ki_Refused_BadQuestion, fun h => (by cases h), fun _ => ⟨rfl, C_Refused, d, _, true, rfl, rfl, er_Refused.e, hd, ki_Refused_Refused, fun _ => ⟨rfl, C_Refused, d, _, false, rfl, rfl, er_Refused.e, hd, ki_Refused_BadQuestion, fun h => (by cases h), fun _ => ⟨rfl, rfl, d, _, rfl, hd, M', Le.refl, kL hb M' l⟩⟩, fun h => (by cases h)⟩⟩⟩, fun ht M' l hg' => ⟨M', Le.refl, kT ht M' l hg'⟩⟩)))⟩⟩⟩)⟩)⟩), fun _ => (eq_i ⟨fun _ => i1 (eq_i ⟨fun a2 => ⟨dx, _, hm, rfl, i0 (i2 (⟨rfl, rfl, g, D, r, j, k, x, n, m, (by rw [z0 a2]; rfl), hg, ok, hj, hk, hc, fun hb d M' l hd => ⟨em_BadQuestion_ReleaseError, fun a => ⟨rfl, C_BadQuestion, d, _, true, rfl, rfl, er_BadQuestion.e, hd, ki_BadQuestion_BadQuestion, fun _ => ⟨rfl, C_BadQuestion, d, _, false, rfl, rfl, er_BadQuestion.e, hd, ki_BadQuestion_Refused, fun h => (by cases h), fun _ => ⟨rfl, rfl, d, _, rfl, hd, M', Le.refl, kB hb M' l⟩⟩, fun h => (by cases h)⟩⟩, fun hb d M' l hd => ⟨em_Refused_ReleaseError, fun a => ⟨rfl, C_Refused, d, _, false, rfl, rfl, er_Refused.e, hd, ki_Refused_BadQuestion, fun h => (by cases h), fun _ => ⟨rfl, C_Refused, d, _, true, rfl, rfl, er_Refused.e, hd, ki_Refused_Refused, fun _ => ⟨rfl, C_Refused, d, _, false, rfl, rfl, er_Refused.e, hd, ki_Refused_BadQuestion, fun h => (by cases h), fun _ => ⟨rfl, rfl, d, _, rfl, hd, M', Le.refl, kL hb M' l⟩⟩, fun h => (by cases h)⟩⟩⟩, fun ht M' l hg' => ⟨M', Le.refl, kT ht M' l hg'⟩⟩))⟩, fun _ => (eq_i ⟨fun _ => i2 (eq_i ⟨fun c2 => ⟨dx, _, hm, rfl, i0 (i1 (⟨rfl, rfl, g, D, r, j, k, x, n, m, (by rw [z0 c2]; rfl), hg, ok, hj, hk, hc, fun hb d M' l hd => ⟨em_BadQuestion_ReleaseError, fun a => ⟨rfl, C_BadQuestion, d, _, true, rfl, rfl, er_BadQuestion.e, hd, ki_BadQuestion_BadQuestion, fun _ => ⟨rfl, C_BadQuestion, d, _, false, rfl, rfl, er_BadQuestion.e, hd, ki_BadQuestion_Refused, fun h => (by cases h), fun _ => ⟨rfl, rfl, d, _, rfl, hd, M', Le.refl, kB hb M' l⟩⟩, fun h => (by cases h)⟩⟩, fun hb d M' l hd => ⟨em_Refused_ReleaseError, fun a => ⟨rfl, C_Refused, d, _, false, rfl, rfl, er_Refused.e, hd, ki_Refused_BadQuestion, fun h => (by cases h), fun _ => ⟨rfl, C_Refused, d, _, true, rfl, rfl, er_Refused.e, hd, ki_Refused_Refused, fun _ => ⟨rfl, C_Refused, d, _, false, rfl, rfl, er_Refused.e, hd, ki_Refused_BadQuestion, fun h => (by cases h), fun _ => ⟨rfl, rfl, d, _, rfl, hd, M', Le.refl, kL hb M' l⟩⟩, fun h => (by cases h)⟩⟩⟩, fun ht M' l hg' => ⟨M', Le.refl, kT ht M' l hg'⟩⟩))⟩, fun _ => eq_i ⟨fun _ => ⟨dx, _, hm, rfl, i0 (i1 (i2 (⟨rfl, rfl, g, D, r, j, k, x, n, m, rfl, hg, ok, hj, hk, hc, fun hb d M' l hd => ⟨em_BadQuestion_ReleaseError, fun a => ⟨rfl, C_BadQuestion, d, _, true, rfl, rfl, er_BadQuestion.e, hd, ki_BadQuestion_BadQuestion, fun _ => ⟨rfl, C_BadQuestion, d, _, false, rfl, rfl, er_BadQuestion.e, hd, ki_BadQuestion_Refused, fun h => (by cases h), fun _ => ⟨rfl, rfl, d, _, rfl, hd, M', Le.refl, kB hb M' l⟩⟩, fun h => (by cases h)⟩⟩, fun hb d M' l hd => ⟨em_Refused_ReleaseError, fun a => ⟨rfl, C_Refused, d, _, false, rfl, rfl, er_Refused.e, hd, ki_Refused_BadQuestion, fun h => (by cases h), fun _ => ⟨rfl, C_Refused, d, _, true, rfl, rfl, er_Refused.e, hd, ki_Refused_Refused, fun _ => ⟨rfl, C_Refused, d, _, false, rfl, rfl, er_Refused.e, hd, ki_Refused_BadQuestion, fun h => (by cases h), fun _ => ⟨rfl, rfl, d, _, rfl, hd, M', Le.refl, kL hb M' l⟩⟩, fun h => (by cases h)⟩⟩⟩, fun ht M' l hg' => ⟨M', Le.refl, kT ht M' l hg'⟩⟩)))⟩, fun _ => ⟨dx, _, hm, rfl, i0 (i1 (i2 (⟨rfl, rfl, g, D, r, j, k, x, n, m, rfl, hg, ok, hj, hk, hc, fun hb d M' l hd => ⟨em_BadQuestion_ReleaseError, fun a => ⟨rfl, C_BadQuestion, d, _, true, rfl, rfl, er_BadQuestion.e, hd, ki_BadQuestion_BadQuestion, fun _ => ⟨rfl, C_BadQuestion, d, _, false, rfl, rfl, er_BadQuestion.e, hd, ki_BadQuestion_Refused, fun h => (by cases h), fun _ => ⟨rfl, rfl, d, _, rfl, hd, M', Le.refl, kB hb M' l⟩⟩, fun h => (by cases h)⟩⟩, fun hb d M' l hd => ⟨em_Refused_ReleaseError, fun a => ⟨rfl, C_Refused, d, _, false, rfl, rfl, er_Refused.e, hd, ki_Refused_BadQuestion, fun h => (by cases h), fun _ => ⟨rfl, C_Refused, d, _, true, rfl, rfl, er_Refused.e, hd, ki_Refused_Refused, fun _ => ⟨rfl, C_Refused, d, _, false, rfl, rfl, er_Refused.e, hd, ki_Refused_BadQuestion, fun h => (by cases h), fun _ => ⟨rfl, rfl, d, _, rfl, hd, M', Le.refl, kL hb M' l⟩⟩, fun h => (by cases h)⟩⟩⟩, fun ht M' l hg' => ⟨M', Le.refl, kT ht M' l hg'⟩⟩)))⟩⟩⟩), fun _ => eq_i ⟨fun _ => ⟨dx, _, hm, rfl, i0 (i1 (i2 (⟨rfl, rfl, g, D, r, j, k, x, n, m, rfl, hg, ok, hj, hk, hc, fun hb d M' l hd => ⟨em_BadQuestion_ReleaseError, fun a => ⟨rfl, C_BadQuestion, d, _, true, rfl, rfl, er_BadQuestion.e, hd, ki_BadQuestion_BadQuestion, fun _ => ⟨rfl, C_BadQuestion, d, _, false, rfl, rfl, er_BadQuestion.e, hd, ki_BadQuestion_Refused, fun h => (by cases h), fun _ => ⟨rfl, rfl, d, _, rfl, hd, M', Le.refl, kB hb M' l⟩⟩, fun h => (by cases h)⟩⟩, fun hb d M' l hd => ⟨em_Refused_ReleaseError, fun a => ⟨rfl, C_Refused, d, _, false, rfl, rfl, er_Refused.e, hd, ki_Refused_BadQuestion, fun h => (by cases h), fun _ => ⟨rfl, C_Refused, d, _, true, rfl, rfl, er_Refused.e, hd, ki_Refused_Refused, fun _ => ⟨rfl, C_Refused, d, _, false, rfl, rfl, er_Refused.e, hd, ki_Refused_BadQuestion, fun h => (by cases h), fun _ => ⟨rfl, rfl, d, _, rfl, hd, M', Le.refl, kL hb M' l⟩⟩, fun h => (by cases h)⟩⟩⟩, fun ht M' l hg' => ⟨M', Le.refl, kT ht M' l hg'⟩⟩)))⟩, fun _ => ⟨dx, _, hm, rfl, i0 (i1 (i2 (⟨rfl, rfl, g, D, r, j, k, x, n, m, rfl, hg, ok, hj, hk, hc, fun hb d M' l hd => ⟨em_BadQuestion_ReleaseError, fun a => ⟨rfl, C_BadQuestion, d, _, true, rfl, rfl, er_BadQuestion.e, hd, ki_BadQuestion_BadQuestion, fun _ => ⟨rfl, C_BadQuestion, d, _, false, rfl, rfl, er_BadQuestion.e, hd, ki_BadQuestion_Refused, fun h => (by cases h), fun _ => ⟨rfl, rfl, d, _, rfl, hd, M', Le.refl, kB hb M' l⟩⟩, fun h => (by cases h)⟩⟩, fun hb d M' l hd => ⟨em_Refused_ReleaseError, fun a => ⟨rfl, C_Refused, d, _, false, rfl, rfl, er_Refused.e, hd, ki_Refused_BadQuestion, fun h => (by cases h), fun _ => ⟨rfl, C_Refused, d, _, true, rfl, rfl, er_Refused.e, hd, ki_Refused_Refused, fun _ => ⟨rfl, C_Refused, d, _, false, rfl, rfl, er_Refused.e, hd, ki_Refused_BadQuestion, fun h => (by cases h), fun _ => ⟨rfl, rfl, d, _, rfl, hd, M', Le.refl, kL hb M' l⟩⟩, fun h => (by cases h)⟩⟩⟩, fun ht M' l hg' => ⟨M', Le.refl, kT ht M' l hg'⟩⟩)))⟩⟩⟩)⟩), fun _ => (eq_i ⟨fun _ => i2 (eq_i ⟨fun c2 => ⟨dx, _, hm, rfl, i0 (i1 (⟨rfl, rfl, g, D, r, j, k, x, n, m, (by rw [z0 c2]; rfl), hg, ok, hj, hk, hc, fun hb d M' l hd => ⟨em_BadQuestion_ReleaseError, fun a => ⟨rfl, C_BadQuestion, d, _, true, rfl, rfl, er_BadQuestion.e, hd, ki_BadQuestion_BadQuestion, fun _ => ⟨rfl, C_BadQuestion, d, _, false, rfl, rfl, er_BadQuestion.e, hd, ki_BadQuestion_Refused, fun h => (by cases h), fun _ => ⟨rfl, rfl, d, _, rfl, hd, M', Le.refl, kB hb M' l⟩⟩, fun h => (by cases h)⟩⟩, fun hb d M' l hd => ⟨em_Refused_ReleaseError, fun a => ⟨rfl, C_Refused, d, _, false, rfl, rfl, er_Refused.e, hd, ki_Refused_BadQuestion, fun h => (by cases h), fun _ => ⟨rfl, C_Refused, d, _, true, rfl, rfl, er_Refused.e, hd, ki_Refused_Refused, fun _ => ⟨rfl, C_Refused, d, _, false, rfl, rfl, er_Refused.e, hd, ki_Refused_BadQuestion, fun h => (by cases h), fun _ => ⟨rfl, rfl, d, _, rfl, hd, M', Le.refl, kL hb M' l⟩⟩, fun h => (by cases h)⟩⟩⟩, fun ht M' l hg' => ⟨M', Le.refl, kT ht M' l hg'⟩⟩))⟩, fun _ => eq_i ⟨fun _ => ⟨dx, _, hm, rfl, i0 (i1 (i2 (⟨rfl, rfl, g, D, r, j, k, x, n, m, rfl, hg, ok, hj, hk, hc, fun hb d M' l hd => ⟨em_BadQuestion_ReleaseError, fun a => ⟨rfl, C_BadQuestion, d, _, true, rfl, rfl, er_BadQuestion.e, hd, ki_BadQuestion_BadQuestion, fun _ => ⟨rfl, C_BadQuestion, d, _, false, rfl, rfl, er_BadQuestion.e, hd, ki_BadQuestion_Refused, fun h => (by cases h), fun _ => ⟨rfl, rfl, d, _, rfl, hd, M', Le.refl, kB hb M' l⟩⟩, fun h => (by cases h)⟩⟩, fun hb d M' l hd => ⟨em_Refused_ReleaseError, fun a => ⟨rfl, C_Refused, d, _, false, rfl, rfl, er_Refused.e, hd, ki_Refused_BadQuestion, fun h => (by cases h), fun _ => ⟨rfl, C_Refused, d, _, true, rfl, rfl, er_Refused.e, hd, ki_Refused_Refused, fun _ => ⟨rfl, C_Refused, d, _, false, rfl, rfl, er_Refused.e, hd, ki_Refused_BadQuestion, fun h => (by cases h), fun _ => ⟨rfl, rfl, d, _, rfl, hd, M', Le.refl, kL hb M' l⟩⟩, fun h => (by cases h)⟩⟩⟩, fun ht M' l hg' => ⟨M', Le.refl, kT ht M' l hg'⟩⟩)))⟩, fun _ => ⟨dx, _, hm, rfl, i0 (i1 (i2 (⟨rfl, rfl, g, D, r, j, k, x, n, m, rfl, hg, ok, hj, hk, hc, fun hb d M' l hd => ⟨em_BadQuestion_ReleaseError, fun a => ⟨rfl, C_BadQuestion, d, _, true, rfl, rfl, er_BadQuestion.e, hd, ki_BadQuestion_BadQuestion, fun _ => ⟨rfl, C_BadQuestion, d, _, false, rfl, rfl, er_BadQuestion.e, hd, ki_BadQuestion_Refused, fun h => (by cases h), fun _ => ⟨rfl, rfl, d, _, rfl, hd, M', Le.refl, kB hb M' l⟩⟩, fun h => (by cases h)⟩⟩, fun hb d M' l hd => ⟨em_Refused_ReleaseError, fun a => ⟨rfl, C_Refused, d, _, false, rfl, rfl, er_Refused.e, hd, ki_Refused_BadQuestion, fun h => (by cases h), fun _ => ⟨rfl, C_Refused, d, _, true, rfl, rfl, er_Refused.e, hd, ki_Refused_Refused, fun _ => ⟨rfl, C_Refused, d, _, false, rfl, rfl, er_Refused.e, hd, ki_Refused_BadQuestion, fun h => (by cases h), fun _ => ⟨rfl, rfl, d, _, rfl, hd, M', Le.refl, kL hb M' l⟩⟩, fun h => (by cases h)⟩⟩⟩, fun ht M' l hg' => ⟨M', Le.refl, kT ht M' l hg'⟩⟩)))⟩⟩⟩), fun _ => eq_i ⟨fun _ => ⟨dx, _, hm, rfl, i0 (i1 (i2 (⟨rfl, rfl, g, D, r, j, k, x, n, m, rfl, hg, ok, hj, hk, hc, fun hb d M' l hd => ⟨em_BadQuestion_ReleaseError, fun a => ⟨rfl, C_BadQuestion, d, _, true, rfl, rfl, er_BadQuestion.e, hd, ki_BadQuestion_BadQuestion, fun _ => ⟨rfl, C_BadQuestion, d, _, false, rfl, rfl, er_BadQuestion.e, hd, ki_BadQuestion_Refused, fun h => (by cases h), fun _ => ⟨rfl, rfl, d, _, rfl, hd, M', Le.refl, kB hb M' l⟩⟩, fun h => (by cases h)⟩⟩, fun hb d M' l hd => ⟨em_Refused_ReleaseError, fun a => ⟨rfl, C_Refused, d, _, false, rfl, rfl, er_Refused.e, hd, ki_Refused_BadQuestion, fun h => (by cases h), fun _ => ⟨rfl, C_Refused, d, _, true, rfl, rfl, er_Refused.e, hd, ki_Refused_Refused, fun _ => ⟨rfl, C_Refused, d, _, false, rfl, rfl, er_Refused.e, hd, ki_Refused_BadQuestion, fun h => (by cases h), fun _ => ⟨rfl, rfl, d, _, rfl, hd, M', Le.refl, kL hb M' l⟩⟩, fun h => (by cases h)⟩⟩⟩, fun ht M' l hg' => ⟨M', Le.refl, kT ht M' l hg'⟩⟩)))⟩, fun _ => ⟨dx, _, hm, rfl, i0 (i1 (i2 (⟨rfl, rfl, g, D, r, j, k, x, n, m, rfl, hg, ok, hj, hk, hc, fun hb d M' l hd => ⟨em_BadQuestion_ReleaseError, fun a => ⟨rfl, C_BadQuestion, d, _, true, rfl, rfl, er_BadQuestion.e, hd, ki_BadQuestion_BadQuestion, fun _ => ⟨rfl, C_BadQuestion, d, _, false, rfl, rfl, er_BadQuestion.e, hd, ki_BadQuestion_Refused, fun h => (by cases h), fun _ => ⟨rfl, rfl, d, _, rfl, hd, M', Le.refl, kB hb M' l⟩⟩, fun h => (by cases h)⟩⟩, fun hb d M' l hd => ⟨em_Refused_ReleaseError, fun a => ⟨rfl, C_Refused, d, _, false, rfl, rfl, er_Refused.e, hd, ki_Refused_BadQuestion, fun h => (by cases h), fun _ => ⟨rfl, C_Refused, d, _, true, rfl, rfl, er_Refused.e, hd, ki_Refused_Refused, fun _ => ⟨rfl, C_Refused, d, _, false, rfl, rfl, er_Refused.e, hd, ki_Refused_BadQuestion, fun h => (by cases h), fun _ => ⟨rfl, rfl, d, _, rfl, hd, M', Le.refl, kL hb M' l⟩⟩, fun h => (by cases h)⟩⟩⟩, fun ht M' l hg' => ⟨M', Le.refl, kT ht M' l hg'⟩⟩)))⟩⟩⟩)⟩)⟩), fun _ => (eq_i ⟨fun _ => i1 (eq_i ⟨fun a2 => ⟨dx, _, hm, rfl, i0 (i2 (⟨rfl, rfl, g, D, r, j, k, x, n, m, (by rw [z0 a2]; rfl), hg, ok, hj, hk, hc, fun hb d M' l hd => ⟨em_BadQuestion_ReleaseError, fun a => ⟨rfl, C_BadQuestion, d, _, true, rfl, rfl, er_BadQuestion.e, hd, ki_BadQuestion_BadQuestion, fun _ => ⟨rfl, C_BadQuestion, d, _, false, rfl, rfl, er_BadQuestion.e, hd, ki_BadQuestion_Refused, fun h => (by cases h), fun _ => ⟨rfl, rfl, d, _, rfl, hd, M', Le.refl, kB hb M' l⟩⟩, fun h => (by cases h)⟩⟩, fun hb d M' l hd => ⟨em_Refused_ReleaseError, fun a => ⟨rfl, C_Refused, d, _, false, rfl, rfl, er_Refused.e, hd, ki_Refused_BadQuestion, fun h => (by cases h), fun _ => ⟨rfl, C_Refused, d, _, true, rfl, rfl, er_Refused.e, hd, ki_Refused_Refused, fun _ => ⟨rfl, C_Refused, d, _, false, rfl, rfl, er_Refused.e, hd, ki_Refused_BadQuestion, fun h => (by cases h), fun _ => ⟨rfl, rfl, d, _, rfl, hd, M', Le.refl, kL hb M' l⟩⟩, fun h => (by cases h)⟩⟩⟩, fun ht M' l hg' => ⟨M', Le.refl, kT ht M' l hg'⟩⟩))⟩, fun _ => (eq_i ⟨fun _ => i2 (eq_i ⟨fun c2 => ⟨dx, _, hm, rfl, i0 (i1 (⟨rfl, rfl, g, D, r, j, k, x, n, m, (by rw [z0 c2]; rfl), hg, ok, hj, hk, hc, fun hb d M' l hd => ⟨em_BadQuestion_ReleaseError, fun a => ⟨rfl, C_BadQuestion, d, _, true, rfl, rfl, er_BadQuestion.e, hd, ki_BadQuestion_BadQuestion, fun _ => ⟨rfl, C_BadQuestion, d, _, false, rfl, rfl, er_BadQuestion.e, hd, ki_BadQuestion_Refused, fun h => (by cases h), fun _ => ⟨rfl, rfl, d, _, rfl, hd, M', Le.refl, kB hb M' l⟩⟩, fun h => (by cases h)⟩⟩, fun hb d M' l hd => ⟨em_Refused_ReleaseError, fun a => ⟨rfl, C_Refused, d, _, false, rfl, rfl, er_Refused.e, hd, ki_Refused_BadQuestion, fun h => (by cases h), fun _ => ⟨rfl, C_Refused, d, _, true, rfl, rfl, er_Refused.e, hd, ki_Refused_Refused, fun _ => ⟨rfl, C_Refused, d, _, false, rfl, rfl, er_Refused.e, hd, ki_Refused_BadQuestion, fun h => (by cases h), fun _ => ⟨rfl, rfl, d, _, rfl, hd, M', Le.refl, kL hb M' l⟩⟩, fun h => (by cases h)⟩⟩⟩, fun ht M' l hg' => ⟨M', Le.refl, kT ht M' l hg'⟩⟩))⟩, fun _ => eq_i ⟨fun _ => ⟨dx, _, hm, rfl, i0 (i1 (i2 (⟨rfl, rfl, g, D, r, j, k, x, n, m, rfl, hg, ok, hj, hk, hc, fun hb d M' l hd => ⟨em_BadQuestion_ReleaseError, fun a => ⟨rfl, C_BadQuestion, d, _, true, rfl, rfl, er_BadQuestion.e, hd, ki_BadQuestion_BadQuestion, fun _ => ⟨rfl, C_BadQuestion, d, _, false, rfl, rfl, er_BadQuestion.e, hd, ki_BadQuestion_Refused, fun h => (by cases h), fun _ => ⟨rfl, rfl, d, _, rfl, hd, M', Le.refl, kB hb M' l⟩⟩, fun h => (by cases h)⟩⟩, fun hb d M' l hd => ⟨em_Refused_ReleaseError, fun a => ⟨rfl, C_Refused, d, _, false, rfl, rfl, er_Refused.e, hd, ki_Refused_BadQuestion, fun h => (by cases h), fun _ => ⟨rfl, C_Refused, d, _, true, rfl, rfl, er_Refused.e, hd, ki_Refused_Refused, fun _ => ⟨rfl, C_Refused, d, _, false, rfl, rfl, er_Refused.e, hd, ki_Refused_BadQuestion, fun h => (by cases h), fun _ => ⟨rfl, rfl, d, _, rfl, hd, M', Le.refl, kL hb M' l⟩⟩, fun h => (by cases h)⟩⟩⟩, fun ht M' l hg' => ⟨M', Le.refl, kT ht M' l hg'⟩⟩)))⟩, fun _ => ⟨dx, _, hm, rfl, i0 (i1 (i2 (⟨rfl, rfl, g, D, r, j, k, x, n, m, rfl, hg, ok, hj, hk, hc, fun hb d M' l hd => ⟨em_BadQuestion_ReleaseError, fun a => ⟨rfl, C_BadQuestion, d, _, true, rfl, rfl, er_BadQuestion.e, hd, ki_BadQuestion_BadQuestion, fun _ => ⟨rfl, C_BadQuestion, d, _, false, rfl, rfl, er_BadQuestion.e, hd, ki_BadQuestion_Refused, fun h => (by cases h), fun _ => ⟨rfl, rfl, d, _, rfl, hd, M', Le.refl, kB hb M' l⟩⟩, fun h => (by cases h)⟩⟩, fun hb d M' l hd => ⟨em_Refused_ReleaseError, fun a => ⟨rfl, C_Refused, d, _, false, rfl, rfl, er_Refused.e, hd, ki_Refused_BadQuestion, fun h => (by cases h), fun _ => ⟨rfl, C_Refused, d, _, true, rfl, rfl, er_Refused.e, hd, ki_Refused_Refused, fun _ => ⟨rfl, C_Refused, d, _, false, rfl, rfl, er_Refused.e, hd, ki_Refused_BadQuestion, fun h => (by cases h), fun _ => ⟨rfl, rfl, d, _, rfl, hd, M', Le.refl, kL hb M' l⟩⟩, fun h => (by cases h)⟩⟩⟩, fun ht M' l hg' => ⟨M', Le.refl, kT ht M' l hg'⟩⟩)))⟩⟩⟩), fun _ => eq_i ⟨fun _ => ⟨dx, _, hm, rfl, i0 (i1 (i2 (⟨rfl, rfl, g, D, r, j, k, x, n, m, rfl, hg, ok, hj, hk, hc, fun hb d M' l hd => ⟨em_BadQuestion_ReleaseError, fun a => ⟨rfl, C_BadQuestion, d, _, true, rfl, rfl, er_BadQuestion.e, hd, ki_BadQuestion_BadQuestion, fun _ => ⟨rfl, C_BadQuestion, d, _, false, rfl, rfl, er_BadQuestion.e, hd, ki_BadQuestion_Refused, fun h => (by cases h), fun _ => ⟨rfl, rfl, d, _, rfl, hd, M', Le.refl, kB hb M' l⟩⟩, fun h => (by cases h)⟩⟩, fun hb d M' l hd => ⟨em_Refused_ReleaseError, fun a => ⟨rfl, C_Refused, d, _, false, rfl, rfl, er_Refused.e, hd, ki_Refused_BadQuestion, fun h => (by cases h), fun _ => ⟨rfl, C_Refused, d, _, true, rfl, rfl, er_Refused.e, hd, ki_Refused_Refused, fun _ => ⟨rfl, C_Refused, d, _, false, rfl, rfl, er_Refused.e, hd, ki_Refused_BadQuestion, fun h => (by cases h), fun _ => ⟨rfl, rfl, d, _, rfl, hd, M', Le.refl, kL hb M' l⟩⟩, fun h => (by cases h)⟩⟩⟩, fun ht M' l hg' => ⟨M', Le.refl, kT ht M' l hg'⟩⟩)))⟩, fun _ => ⟨dx, _, hm, rfl, i0 (i1 (i2 (⟨rfl, rfl, g, D, r, j, k, x, n, m, rfl, hg, ok, hj, hk, hc, fun hb d M' l hd => ⟨em_BadQuestion_ReleaseError, fun a => ⟨rfl, C_BadQuestion, d, _, true, rfl, rfl, er_BadQuestion.e, hd, ki_BadQuestion_BadQuestion, fun _ => ⟨rfl, C_BadQuestion, d, _, false, rfl, rfl, er_BadQuestion.e, hd, ki_BadQuestion_Refused, fun h => (by cases h), fun _ => ⟨rfl, rfl, d, _, rfl, hd, M', Le.refl, kB hb M' l⟩⟩, fun h => (by cases h)⟩⟩, fun hb d M' l hd => ⟨em_Refused_ReleaseError, fun a => ⟨rfl, C_Refused, d, _, false, rfl, rfl, er_Refused.e, hd, ki_Refused_BadQuestion, fun h => (by cases h), fun _ => ⟨rfl, C_Refused, d, _, true, rfl, rfl, er_Refused.e, hd, ki_Refused_Refused, fun _ => ⟨rfl, C_Refused, d, _, false, rfl, rfl, er_Refused.e, hd, ki_Refused_BadQuestion, fun h => (by cases h), fun _ => ⟨rfl, rfl, d, _, rfl, hd, M', Le.refl, kL hb M' l⟩⟩, fun h => (by cases h)⟩⟩⟩, fun ht M' l hg' => ⟨M', Le.refl, kT ht M' l hg'⟩⟩)))⟩⟩⟩)⟩), fun _ => (eq_i ⟨fun _ => i2 (eq_i ⟨fun c2 => ⟨dx, _, hm, rfl, i0 (i1 (⟨rfl, rfl, g, D, r, j, k, x, n, m, (by rw [z0 c2]; rfl), hg, ok, hj, hk, hc, fun hb d M' l hd => ⟨em_BadQuestion_ReleaseError, fun a => ⟨rfl, C_BadQuestion, d, _, true, rfl, rfl, er_BadQuestion.e, hd, ki_BadQuestion_BadQuestion, fun _ => ⟨rfl, C_BadQuestion, d, _, false, rfl, rfl, er_BadQuestion.e, hd, ki_BadQuestion_Refused, fun h => (by cases h), fun _ => ⟨rfl, rfl, d, _, rfl, hd, M', Le.refl, kB hb M' l⟩⟩, fun h => (by cases h)⟩⟩, fun hb d M' l hd => ⟨em_Refused_ReleaseError, fun a => ⟨rfl, C_Refused, d, _, false, rfl, rfl, er_Refused.e, hd, ki_Refused_BadQuestion, fun h => (by cases h), fun _ => ⟨rfl, C_Refused, d, _, true, rfl, rfl, er_Refused.e, hd, ki_Refused_Refused, fun _ => ⟨rfl, C_Refused, d, _, false, rfl, rfl, er_Refused.e, hd, ki_Refused_BadQuestion, fun h => (by cases h), fun _ => ⟨rfl, rfl, d, _, rfl, hd, M', Le.refl, kL hb M' l⟩⟩, fun h => (by cases h)⟩⟩⟩, fun ht M' l hg' => ⟨M', Le.refl, kT ht M' l hg'⟩⟩))⟩, fun _ => eq_i ⟨fun _ => ⟨dx, _, hm, rfl, i0 (i1 (i2 (⟨rfl, rfl, g, D, r, j, k, x, n, m, rfl, hg, ok, hj, hk, hc, fun hb d M' l hd => ⟨em_BadQuestion_ReleaseError, fun a => ⟨rfl, C_BadQuestion, d, _, true, rfl, rfl, er_BadQuestion.e, hd, ki_BadQuestion_BadQuestion, fun _ => ⟨rfl, C_BadQuestion, d, _, false, rfl, rfl, er_BadQuestion.e, hd, ki_BadQuestion_Refused, fun h => (by cases h), fun _ => ⟨rfl, rfl, d, _, rfl, hd, M', Le.refl, kB hb M' l⟩⟩, fun h => (by cases h)⟩⟩, fun hb d M' l hd => ⟨em_Refused_ReleaseError, fun a => ⟨rfl, C_Refused, d, _, false, rfl, rfl, er_Refused.e, hd, ki_Refused_BadQuestion, fun h => (by cases h), fun _ => ⟨rfl, C_Refused, d, _, true, rfl, rfl, er_Refused.e, hd, ki_Refused_Refused, fun _ => ⟨rfl, C_Refused, d, _, false, rfl, rfl, er_Refused.e, hd, ki_Refused_BadQuestion, fun h => (by cases h), fun _ => ⟨rfl, rfl, d, _, rfl, hd, M', Le.refl, kL hb M' l⟩⟩, fun h => (by cases h)⟩⟩⟩, fun ht M' l hg' => ⟨M', Le.refl, kT ht M' l hg'⟩⟩)))⟩, fun _ => ⟨dx, _, hm, rfl, i0 (i1 (i2 (⟨rfl, rfl, g, D, r, j, k, x, n, m, rfl, hg, ok, hj, hk, hc, fun hb d M' l hd => ⟨em_BadQuestion_ReleaseError, fun a => ⟨rfl, C_BadQuestion, d, _, true, rfl, rfl, er_BadQuestion.e, hd, ki_BadQuestion_BadQuestion, fun _ => ⟨rfl, C_BadQuestion, d, _, false, rfl, rfl, er_BadQuestion.e, hd, ki_BadQuestion_Refused, fun h => (by cases h), fun _ => ⟨rfl, rfl, d, _, rfl, hd, M', Le.refl, kB hb M' l⟩⟩, fun h => (by cases h)⟩⟩, fun hb d M' l hd => ⟨em_Refused_ReleaseError, fun a => ⟨rfl, C_Refused, d, _, false, rfl, rfl, er_Refused.e, hd, ki_Refused_BadQuestion, fun h => (by cases h), fun _ => ⟨rfl, C_Refused, d, _, true, rfl, rfl, er_Refused.e, hd, ki_Refused_Refused, fun _ => ⟨rfl, C_Refused, d, _, false, rfl, rfl, er_Refused.e, hd, ki_Refused_BadQuestion, fun h => (by cases h), fun _ => ⟨rfl, rfl, d, _, rfl, hd, M', Le.refl, kL hb M' l⟩⟩, fun h => (by cases h)⟩⟩⟩, fun ht M' l hg' => ⟨M', Le.refl, kT ht M' l hg'⟩⟩)))⟩⟩⟩), fun _ => eq_i ⟨fun _ => ⟨dx, _, hm, rfl, i0 (i1 (i2 (⟨rfl, rfl, g, D, r, j, k, x, n, m, rfl, hg, ok, hj, hk, hc, fun hb d M' l hd => ⟨em_BadQuestion_ReleaseError, fun a => ⟨rfl, C_BadQuestion, d, _, true, rfl, rfl, er_BadQuestion.e, hd, ki_BadQuestion_BadQuestion, fun _ => ⟨rfl, C_BadQuestion, d, _, false, rfl, rfl, er_BadQuestion.e, hd, ki_BadQuestion_Refused, fun h => (by cases h), fun _ => ⟨rfl, rfl, d, _, rfl, hd, M', Le.refl, kB hb M' l⟩⟩, fun h => (by cases h)⟩⟩, fun hb d M' l hd => ⟨em_Refused_ReleaseError, fun a => ⟨rfl, C_Refused, d, _, false, rfl, rfl, er_Refused.e, hd, ki_Refused_BadQuestion, fun h => (by cases h), fun _ => ⟨rfl, C_Refused, d, _, true, rfl, rfl, er_Refused.e, hd, ki_Refused_Refused, fun _ => ⟨rfl, C_Refused, d, _, false, rfl, rfl, er_Refused.e, hd, ki_Refused_BadQuestion, fun h => (by cases h), fun _ => ⟨rfl, rfl, d, _, rfl, hd, M', Le.refl, kL hb M' l⟩⟩, fun h => (by cases h)⟩⟩⟩, fun ht M' l hg' => ⟨M', Le.refl, kT ht M' l hg'⟩⟩)))⟩, fun _ => ⟨dx, _, hm, rfl, i0 (i1 (i2 (⟨rfl, rfl, g, D, r, j, k, x, n, m, rfl, hg, ok, hj, hk, hc, fun hb d M' l hd => ⟨em_BadQuestion_ReleaseError, fun a => ⟨rfl, C_BadQuestion, d, _, true, rfl, rfl, er_BadQuestion.e, hd, ki_BadQuestion_BadQuestion, fun _ => ⟨rfl, C_BadQuestion, d, _, false, rfl, rfl, er_BadQuestion.e, hd, ki_BadQuestion_Refused, fun h => (by cases h), fun _ => ⟨rfl, rfl, d, _, rfl, hd, M', Le.refl, kB hb M' l⟩⟩, fun h => (by cases h)⟩⟩, fun hb d M' l hd => ⟨em_Refused_ReleaseError, fun a => ⟨rfl, C_Refused, d, _, false, rfl, rfl, er_Refused.e, hd, ki_Refused_BadQuestion, fun h => (by cases h), fun _ => ⟨rfl, C_Refused, d, _, true, rfl, rfl, er_Refused.e, hd, ki_Refused_Refused, fun _ => ⟨rfl, C_Refused, d, _, false, rfl, rfl, er_Refused.e, hd, ki_Refused_BadQuestion, fun h => (by cases h), fun _ => ⟨rfl, rfl, d, _, rfl, hd, M', Le.refl, kL hb M' l⟩⟩, fun h => (by cases h)⟩⟩⟩, fun ht M' l hg' => ⟨M', Le.refl, kT ht M' l hg'⟩⟩)))⟩⟩⟩)⟩)⟩
def sp_istold : PSp := fun ps M Q => ∃ (D : Dk) (r : Rd) (k : Nat) (x : Int) (n : Nat) (p : CR.P), ps = [.tup [.str (outW D r x), outV D r x n], .tup [.str (outW D r x), outV D r x n, p]] ∧ D.Ok ∧ r.Ok D k ∧ r.n.natAbs < 2 ^ 2000 ∧ Q (.bl true) M
theorem sp_istold_len : ∀ vs M Q, sp_istold vs M Q → vs.length = 2 := fun vs M Q ⟨a, b, c, d, e, f, e', _⟩ => by rw [e']; rfl
abbrev s__law_is_told : Stmt := top 151
theorem sc__law_is_told : FnScope ["told", "due"] ["told", "due"] (defScope s__law_is_told) := ⟨rfl, rfl, rfl, by decide +kernel, rfl, by decide +kernel, by decide +kernel⟩
theorem c__law_is_told (F : Std K mg "_law_is_told" s__law_is_told) (B : BFree mg) (c__law_is_frac : C8.Cal P w K mg base 2 "_law_is_frac" (toSp K sp_isfrac) []) (c__law_is_int : C8.Cal P w K mg base 1 "_law_is_int" (toSp K sp_isint) []) : C8.Cal P w K mg base 3 "_law_is_told" (toSp K sp_istold) [] := by
  refine F.cal sc__law_is_told sp_istold_len (fun _ _ _ _ _ _ us hl => match us, hl with | [_, _], _ => rfl) (fun f cdv A outer s H E hr => ?_)
  have nd := sc__law_is_told.nd
  refine ⟨_, _, (qss_cons (qs_if (QW.t (qw_or (qt_neK K hr.units (qe_ixK K (qe_var (i := 0) rfl (by first | exact .inl rfl | exact .inr (.inl rfl) | exact .inr (.inr rfl))) qe_int) (qe_ixK K (qe_var (i := 1) rfl (by first | exact .inl rfl | exact .inr (.inl rfl) | exact .inr (.inr rfl))) qe_int) (nomark _)) (qw_or1 (qt_neK K hr.units (qe_ixK K (qe_var (i := 0) rfl (by first | exact .inl rfl | exact .inr (.inl rfl) | exact .inr (.inr rfl))) qe_int) (qe_ixK K (qe_var (i := 1) rfl (by first | exact .inl rfl | exact .inr (.inl rfl) | exact .inr (.inr rfl))) qe_int) (nomark _))))) (qss_one (qs_ret qe_bl)) qss_nil)
      (qss_one (qs_ret (qe_ifExp (qt_eqK K hr.units (qe_ixK K (qe_var (i := 1) rfl (by first | exact .inl rfl | exact .inr (.inl rfl) | exact .inr (.inr rfl))) qe_int) qe_str (nomark _)) (qe_callK K c__law_is_frac hr (by decide) rfl (qa_cons (qe_ixK K (qe_var (i := 0) rfl (by first | exact .inl rfl | exact .inr (.inl rfl) | exact .inr (.inr rfl))) qe_int) qa_nil)) (qe_callK K c__law_is_int hr (by decide) rfl (qa_cons (qe_ixK K (qe_var (i := 0) rfl (by first | exact .inl rfl | exact .inr (.inl rfl) | exact .inr (.inr rfl))) qe_int) qa_nil)))))), fun vs M Q h => ?_⟩
  obtain ⟨D, r, k, x, n, p, rfl, ok, hr, hnb, kQ⟩ := h
  walk_at "s"
  refine i0 (i0 (ne_s ?_))
  rw [decide_eq_true rfl]
  refine ⟨fun h => (by cases h), fun _ => i1 (i1 ?_)⟩
  cases ho : outOf D r x with
  | bad =>
    have e1 : outV D r x n = .int x := by unfold outV; rw [ho]; try rfl
    have e2 : outW D r x = "bad" := by unfold outW; rw [ho]
    rw [e1, e2]
    refine ne_i ?_
    rw [decide_eq_true rfl]
    refine ⟨fun h => (by cases h), fun _ => i0 (eq_s ?_)⟩
    exact ⟨fun h => absurd h (by decide), fun _ => i1 ⟨_, "int", rfl, rfl, M, Le.refl, kQ⟩⟩
  | told =>
    have e1 : outV D r x n = .int (ansN D r x.toNat n : Nat) := by unfold outV; rw [ho]; try rfl
    have e2 : outW D r x = "told" := by unfold outW; rw [ho]
    rw [e1, e2]
    refine ne_i ?_
    rw [decide_eq_true rfl]
    refine ⟨fun h => (by cases h), fun _ => i0 (eq_s ?_)⟩
    exact ⟨fun h => absurd h (by decide), fun _ => i1 ⟨_, "int", rfl, rfl, M, Le.refl, kQ⟩⟩
  | left =>
    have e1 : outV D r x n = leftOf D r := by unfold outV; rw [ho]
    have e2 : outW D r x = "left" := by unfold outW; rw [ho]
    rw [e1, e2]
    have hp : 0 < D.bd * r.n := Int.mul_pos ok.b.2.1 hr.pos
    have hg : Int.gcd (D.bn * r.d / (Int.gcd (D.bn * r.d) (D.bd * r.n) : Int)) (D.bd * r.n / (Int.gcd (D.bn * r.d) (D.bd * r.n) : Int)) = 1 := by
      have := gcd_pos (n := D.bn * r.d) hp
      exact Int.gcd_ediv_gcd_ediv_gcd (by omega)
    have hq := (nfr_div (n := D.bn * r.d) hp).1.1
    refine ne_self (okd_fr _ _) (by decide) ⟨fun h => (by cases h), fun _ => i0 (eq_s ?_)⟩
    refine ⟨fun _ => i1 ⟨_, _, rfl, ?_⟩, fun h => absurd h (by decide)⟩
    have hd1 : decide (1 ≤ D.bd * r.n / (Int.gcd (D.bn * r.d) (D.bd * r.n) : Int)) = true := decide_eq_true (by omega)
    have hg1 : decide ((Int.gcd (D.bn * r.d / (Int.gcd (D.bn * r.d) (D.bd * r.n) : Int)) (D.bd * r.n / (Int.gcd (D.bn * r.d) (D.bd * r.n) : Int)) : Int) = 1) = true := decide_eq_true (by rw [hg]; rfl)
    rw [hd1, hg1]
    exact ⟨M, Le.refl, kQ⟩
end
end CR

set_option Elab.async false
set_option linter.all false
set_option maxRecDepth 100000
set_option maxHeartbeats 4000000
set_option exponentiation.threshold 300000
namespace CR
open PySem PySem.Spec L2
local macro_rules | `(tactic| walk_at "s") => `(tactic| dsimp only [fRet, fSeq, fCut, fAsg, fDrop, fIfS, fNext, fBreak, fCont, fVar, fC, fOp, fCall, fCons, fNil, fCB, fBMS, fBML, fTup, fLst, fTest, fNot, fAnd, fOr, fAndV, fOrV, fNotV, fIf, fNeg, fChain, fGName, fGTup, fGCons, fGNil, fAugI, fSl, fPart, fNoPart, fRevL, fLstRg, fRepl, fFld, fSFld, fMeth, fProp, fPropSet, fMake, fMakeV, fCMeth, fGSub, fAugSub, fISeq, fIStr, fIRng1, fIRng2, fFor, fWhile, fLc, fYes, fIsi, fOf, fSeqX, fIfX, fRaise, fSetMX, fTry, fFldX, fIsX, fCMK, fMD, nth, lawS, startP, setS, clrS, wipeS, fnEnds, pI0, pI])
local macro_rules | `(tactic| walk_at "d") => `(tactic| try dsimp only)
section
variable {P : Program} {w : World} {K : PySem.W.Frag} {mg : Str → Option Value} {base : Heap}
open SX
/-- find of the line's end -/
theorem find_ten {w t : List Nat} (h : 10 ∉ w) : Txt.find (S (w ++ 10 :: t)) (S [10]) = (w.length : Int) := by
  have one : ∀ i, StrLaws.At (S (w ++ 10 :: t)) (S [10]) (S (w ++ 10 :: t)).length i ↔ (w ++ 10 :: t)[i]? = some 10 := fun i => by
    have := StrLaws.subAt_one (S (w ++ 10 :: t)) 10 i
    have e : (S (w ++ 10 :: t)).cps.toList = w ++ 10 :: t := by simp [S]
    rw [e] at this
    exact this
  have hw : (w ++ 10 :: t)[w.length]? = some 10 := by simp
  rcases PyProof.Rows.find_whole (S (w ++ 10 :: t)) (S [10]) with ⟨_, hn⟩ | ⟨i, e, hi, hn⟩
  · exact absurd ((one _).mpr hw) (hn _)
  · rw [e]
    have h1 : ¬ w.length < i := fun hlt => hn _ hlt ((one _).mpr hw)
    have h2 : ¬ i < w.length := fun hlt => by
      have h3 := (one i).mp hi
      rw [List.getElem?_append_left hlt] at h3
      exact h (List.mem_of_getElem? h3)
    have : i = w.length := by omega
    rw [this]
theorem find_nil : Txt.find (S []) (S [10]) = -1 := by
  rcases PyProof.Rows.find_whole (S []) (S [10]) with ⟨e, _⟩ | ⟨i, e, hi, hn⟩
  · exact e
  · have := (StrLaws.subAt_one (S []) 10 i).mp hi
    simp [S] at this
theorem find_ln {l t : List Nat} (h : IsLn l) : Txt.find (S (l ++ t)) (S [10]) + 1 = (l.length : Int) := by
  obtain ⟨w, rfl, hw⟩ := h
  rw [List.append_assoc, List.singleton_append, find_ten hw, List.length_append]
  rfl
def linesOf (D : Dk) (r : Rd) (x : Int) (n m : Nat) : List Nat := match outOf D r x with
  | .told => askT D r x.toNat ++ sayT D r x.toNat n m
  | _ => []
def sizeOf (D : Dk) (r : Rd) (x : Int) : Nat := match outOf D r x with
  | .told => (askT D r x.toNat).length
  | _ => 0
def fallR (D : Dk) (r : Rd) (x : Int) (n m c : Nat) : Rd := match outOf D r x with
  | .told => if c < (askT D r x.toNat).length then r else if c < (askT D r x.toNat ++ sayT D r x.toNat n m).length then askR D r x.toNat else sayR D r x.toNat n m
  | _ => r
def fallJ (D : Dk) (r : Rd) (j : List Nat) (x : Int) (n m c : Nat) : List Nat := match outOf D r x with
  | .told => if c < (askT D r x.toNat).length then j else if c < (askT D r x.toNat ++ sayT D r x.toNat n m).length then j ++ askT D r x.toNat else j ++ askT D r x.toNat ++ sayT D r x.toNat n m
  | _ => j
theorem outJ_lines (D : Dk) (r : Rd) (j : List Nat) (x : Int) (n m : Nat) : outJ D r j x n m = j ++ linesOf D r x n m := by
  unfold outJ linesOf
  cases outOf D r x with
  | told => dsimp only; rw [List.append_assoc]
  | bad => dsimp only; rw [List.append_nil]
  | left => dsimp only; rw [List.append_nil]
theorem size_lines (D : Dk) (r : Rd) (x : Int) (n m : Nat) : Txt.find (S (linesOf D r x n m)) (S [10]) + 1 = (sizeOf D r x : Int) := by
  unfold linesOf sizeOf
  cases outOf D r x with
  | told => exact find_ln (ln_ask _ _ _)
  | bad => dsimp only; rw [find_nil]; rfl
  | left => dsimp only; rw [find_nil]; rfl
theorem Rd.Ok.up {D : Dk} {k k2 : Nat} {r : Rd} (h : r.Ok D k) (l : k ≤ k2) : r.Ok D k2 := ⟨h.lot, h.mode, h.wait, h.bt.up (by omega) (by omega), h.pos, by have := h.tk; omega⟩
section
variable {D : Dk} (ok : D.Ok)
include ok
theorem Jn.up {k k2 : Nat} {r : Rd} {j : List Nat} (h : Jn D k r j) (l : k ≤ k2) : Jn D k2 r j := ⟨h.ok.up l, h.g, h.nb, h.pl, by have := h.ln; have : 13000 * (k + 1) ≤ 13000 * (k2 + 1) := Nat.mul_le_mul_left _ (by omega); omega, by obtain ⟨n, ls, a, b, c, d, e⟩ := h.js; exact ⟨n, ls, a, b, c, by omega, e⟩⟩
theorem out_ok {k : Nat} {r : Rd} {j : List Nat} {x : Int} {n m : Nat} (h : Jn D k r j) (hk : k ≤ 40) (hc : CallOk D r x n m) : Jn D (k + 2) (outR D r x n m) (outJ D r j x n m) := by
  unfold outR outJ
  cases ho : outOf D r x with
  | told =>
    obtain ⟨⟨h0, hx⟩, _⟩ := told_iff.mp ho
    obtain ⟨xn, rfl⟩ := Int.eq_ofNat_of_zero_le h0
    have j1 := h.ask ok (by omega) ho
    have j2 := j1.say ok h.ok (by omega) (by omega) hc
    exact j2
  | bad => exact h.up ok (by omega)
  | left => exact h.up ok (by omega)
theorem fall_ok {k : Nat} {r : Rd} {j : List Nat} {x : Int} {n m c : Nat} (h : Jn D k r j) (hk : k ≤ 40) (hc : CallOk D r x n m) (hl : c ≤ (linesOf D r x n m).length) :
    readJ D (j ++ (linesOf D r x n m).take c) = some (fallR D r x n m c, fallJ D r j x n m c) ∧ (lines (j ++ (linesOf D r x n m).take c)).length ≤ k + 4 ∧ Jn D (k + 2) (fallR D r x n m c) (fallJ D r j x n m c) := by
  unfold linesOf at hl
  unfold linesOf fallR fallJ
  cases ho : outOf D r x with
  | bad =>
    rw [ho] at hl
    have := h.read0 ok
    dsimp only
    rw [List.take_nil, List.append_nil]
    exact ⟨this.1, by omega, h.up ok (by omega)⟩
  | left =>
    rw [ho] at hl
    have := h.read0 ok
    dsimp only
    rw [List.take_nil, List.append_nil]
    exact ⟨this.1, by omega, h.up ok (by omega)⟩
  | told =>
    rw [ho] at hl
    obtain ⟨⟨h0, hx⟩, _⟩ := told_iff.mp ho
    obtain ⟨xn, rfl⟩ := Int.eq_ofNat_of_zero_le h0
    dsimp only at hl ⊢
    rw [Int.toNat_natCast] at hl ⊢
    have j1 := h.ask ok (by omega) ho
    have j2 := j1.say ok h.ok (by omega) (by omega) hc
    have n1 : IsLn (askT D r xn) := ln_ask _ _ _
    have n2 : IsLn (sayT D r xn n m) := ln_say _ _ _
    by_cases c1 : c < (askT D r xn).length
    · rw [if_pos c1, if_pos c1, List.take_append_of_le_length (by omega)]
      have := h.read ok (ln_take n1 c1)
      exact ⟨this.1, by omega, h.up ok (by omega)⟩
    · rw [if_neg c1, if_neg c1]
      by_cases c2 : c < (askT D r xn ++ sayT D r xn n m).length
      · rw [if_pos c2, if_pos c2]
        rw [List.length_append] at c2
        have e : (askT D r xn ++ sayT D r xn n m).take c = askT D r xn ++ (sayT D r xn n m).take (c - (askT D r xn).length) := by
          rw [List.take_append, List.take_of_length_le (by omega)]
        rw [e, ← List.append_assoc]
        have := j1.read ok (ln_take n2 (k := c - (askT D r xn).length) (by omega))
        exact ⟨this.1, by omega, j1.up ok (by omega)⟩
      · rw [if_neg c2, if_neg c2, List.take_of_length_le (by omega), ← List.append_assoc]
        have := j2.read0 ok
        exact ⟨this.1, by omega, j2⟩
end
end
end CR

set_option Elab.async false
set_option linter.all false
set_option maxRecDepth 100000
set_option maxHeartbeats 4000000
set_option exponentiation.threshold 300000
namespace CR
open PySem PySem.Spec L2
local macro_rules | `(tactic| walk_at "s") => `(tactic| dsimp only [fRet, fSeq, fCut, fAsg, fDrop, fIfS, fNext, fBreak, fCont, fVar, fC, fOp, fCall, fCons, fNil, fCB, fBMS, fBML, fTup, fLst, fTest, fNot, fAnd, fOr, fAndV, fOrV, fNotV, fIf, fNeg, fChain, fGName, fGTup, fGCons, fGNil, fAugI, fSl, fPart, fNoPart, fRevL, fLstRg, fRepl, fFld, fSFld, fMeth, fProp, fPropSet, fMake, fMakeV, fCMeth, fGSub, fAugSub, fISeq, fIStr, fIRng1, fIRng2, fFor, fWhile, fLc, fYes, fIsi, fOf, fSeqX, fIfX, fRaise, fSetMX, fTry, fFldX, fIsX, fCMK, fMD, nth, lawS, startP, setS, clrS, wipeS, fnEnds, pI0, pI])
local macro_rules | `(tactic| walk_at "d") => `(tactic| try dsimp only)
section
variable {P : Program} {w : World} {K : PySem.W.Frag} {mg : Str → Option Value} {base : Heap}
open SX
theorem find_S {l : List Nat} {M : Mp} {Q : KE} (q : Q (.int (Txt.find (S l) (S [10]))) M) : pFind (T l) [.str "\n"] M Q := q
theorem readJ_no {D : Dk} {t : List Nat} (h : 10 ∉ t) : readJ D t = none ∧ (lines t).length = 1 := by
  obtain ⟨a, b⟩ := lines_flat [] t (fun _ h => (by cases h)) h
  rw [List.flatten_nil, List.nil_append] at a b
  refine ⟨?_, b⟩
  unfold readJ
  rw [a]
def sp_cdrawn : PSp := fun ps M Q => ∃ (d : Addr) (D : Dk) (r : Rd) (k : Nat), ps = [.ref d, D.h.p, I D.st, I r.mode] ∧ M d = some .drw ∧ D.Ok ∧ r.Ok D k ∧ ∀ (x : Int) (n m : Nat), CallOk D r x n m → Q (.tup [.int x, .int n, .int m]) M
theorem sp_cdrawn_len : ∀ vs M Q, sp_cdrawn vs M Q → vs.length = 4 := fun vs M Q ⟨a, b, c, d, e', _⟩ => by rw [e']; rfl
abbrev s__law_call_drawn : Stmt := top 149
theorem sc__law_call_drawn : FnScope ["d", "house", "state", "mode", "many", "x", "n"] ["d", "house", "state", "mode"] (defScope s__law_call_drawn) := ⟨rfl, rfl, rfl, by decide +kernel, rfl, by decide +kernel, by decide +kernel⟩
theorem c__law_call_drawn (F : Std K mg "_law_call_drawn" s__law_call_drawn) (B : BFree mg) (c__law_draw : C8.Cal P w K mg base 1 "_law_draw" (toSp K sp_draw) []) (c__law_pick : C8.Cal P w K mg base 2 "_law_pick" (toSp K sp_pick) []) (c__law_ticket : C8.Cal P w K mg base 2 "_law_ticket" (toSp K sp_ticket) []) : C8.Cal P w K mg base 3 "_law_call_drawn" (toSp K sp_cdrawn) [] := by
  refine F.cal sc__law_call_drawn sp_cdrawn_len (fun _ _ _ _ _ _ us hl => match us, hl with | [_, _, _, _], _ => rfl) (fun f cdv A outer s H E hr => ?_)
  have nd := sc__law_call_drawn.nd
  refine ⟨_, _, (qss_cons (qs_set (i := 4) nd rfl (by first | exact .inl rfl | exact .inr rfl) (qe_callBK K ac_len call_len rfl B.f_len PySem.boot_len (qa_cons (qe_ixK K (qe_ixK K (qe_var (i := 1) rfl (by first | exact .inl rfl | exact .inr (.inl rfl) | exact .inr (.inr rfl))) qe_int) (qe_var (i := 3) rfl (by first | exact .inl rfl | exact .inr (.inl rfl) | exact .inr (.inr rfl)))) qa_nil)))
      (qss_cons (qs_if (QW.t (qw_or (qt_eqK K hr.units (qe_var (i := 4) rfl (by first | exact .inl rfl | exact .inr (.inl rfl) | exact .inr (.inr rfl))) qe_int (nomark _)) (qw_or1 (qt_eqK K hr.units (qe_callK K c__law_draw hr (by decide) rfl (qa_cons (qe_var (i := 0) rfl (by first | exact .inl rfl | exact .inr (.inl rfl) | exact .inr (.inr rfl))) (qa_cons qe_int qa_nil))) qe_int (nomark _))))) (qss_one (qs_ret (qe_tup (qa_cons (qe_callK K c__law_pick hr (by decide) rfl (qa_cons (qe_var (i := 0) rfl (by first | exact .inl rfl | exact .inr (.inl rfl) | exact .inr (.inr rfl))) (qa_cons (qe_lst (qa_cons (qe_var (i := 4) rfl (by first | exact .inl rfl | exact .inr (.inl rfl) | exact .inr (.inr rfl))) (qa_cons (qe_neg qe_int) (qa_cons (qe_plusK K (qe_var (i := 4) rfl (by first | exact .inl rfl | exact .inr (.inl rfl) | exact .inr (.inr rfl))) qe_int) (qa_cons qe_int (qa_cons (qe_sub (qe_neg (qe_var (i := 4) rfl (by first | exact .inl rfl | exact .inr (.inl rfl) | exact .inr (.inr rfl)))) qe_int) qa_nil)))))) qa_nil))) (qa_cons qe_int (qa_cons qe_int qa_nil)))))) qss_nil)
      (qss_cons (qs_set (i := 5) nd rfl (by first | exact .inl rfl | exact .inr rfl) (qe_callK K c__law_draw hr (by decide) rfl (qa_cons (qe_var (i := 0) rfl (by first | exact .inl rfl | exact .inr (.inl rfl) | exact .inr (.inr rfl))) (qa_cons (qe_var (i := 4) rfl (by first | exact .inl rfl | exact .inr (.inl rfl) | exact .inr (.inr rfl))) qa_nil))))
      (qss_cons (qs_set (i := 6) nd rfl (by first | exact .inl rfl | exact .inr rfl) (qe_callK K c__law_draw hr (by decide) rfl (qa_cons (qe_var (i := 0) rfl (by first | exact .inl rfl | exact .inr (.inl rfl) | exact .inr (.inr rfl))) (qa_cons qe_int qa_nil))))
      (qss_cut (qs_if (qt_eqK K hr.units (qe_ixK K (qe_ixK K (qe_ixK K (qe_ixK K (qe_var (i := 1) rfl (by first | exact .inl rfl | exact .inr (.inl rfl) | exact .inr (.inr rfl))) qe_int) (qe_var (i := 3) rfl (by first | exact .inl rfl | exact .inr (.inl rfl) | exact .inr (.inr rfl)))) (qe_var (i := 5) rfl (by first | exact .inl rfl | exact .inr (.inl rfl) | exact .inr (.inr rfl)))) qe_int) qe_str (nomark _)) (qss_one (qs_set (i := 6) nd rfl (by first | exact .inl rfl | exact .inr rfl) (qe_callK K c__law_ticket hr (by decide) rfl (qa_cons (qe_var (i := 0) rfl (by first | exact .inl rfl | exact .inr (.inl rfl) | exact .inr (.inr rfl))) (qa_cons (qe_callBK K ac_sum (cr_sumA rfl) rfl B.f_sum (by decide +kernel) (qa_cons (qe_ixK K (qe_ixK K (qe_ixK K (qe_ixK K (qe_ixK K (qe_var (i := 1) rfl (by first | exact .inl rfl | exact .inr (.inl rfl) | exact .inr (.inr rfl))) qe_int) (qe_var (i := 3) rfl (by first | exact .inl rfl | exact .inr (.inl rfl) | exact .inr (.inr rfl)))) (qe_var (i := 5) rfl (by first | exact .inl rfl | exact .inr (.inl rfl) | exact .inr (.inr rfl)))) qe_int) (qe_var (i := 2) rfl (by first | exact .inl rfl | exact .inr (.inl rfl) | exact .inr (.inr rfl)))) qa_nil)) qa_nil))))) qss_nil)
      (qss_one (qs_ret (qe_tup (qa_cons (qe_var (i := 5) rfl (by first | exact .inl rfl | exact .inr (.inl rfl) | exact .inr (.inr rfl))) (qa_cons (qe_var (i := 6) rfl (by first | exact .inl rfl | exact .inr (.inl rfl) | exact .inr (.inr rfl))) (qa_cons (qe_callK K c__law_ticket hr (by decide) rfl (qa_cons (qe_var (i := 0) rfl (by first | exact .inl rfl | exact .inr (.inl rfl) | exact .inr (.inr rfl))) (qa_cons (qe_callBK K ac_sum (cr_sumA rfl) rfl B.f_sum (by decide +kernel) (qa_cons (qe_ixK K (qe_var (i := 1) rfl (by first | exact .inl rfl | exact .inr (.inl rfl) | exact .inr (.inr rfl))) qe_int) qa_nil)) qa_nil))) qa_nil))))))))))), fun vs M Q h => ?_⟩
  obtain ⟨d, D, r, k, rfl, hd, ok, hr, kQ⟩ := h
  obtain ⟨em, er, el⟩ := Dk.mode ok hr.mode
  walk_at "s"
  obtain ⟨⟨kk, hkk⟩, _⟩ := id ok.h
  have hll := hkk.ll
  have hql := Dk.qlen ok hr.mode
  have hs0 : 0 < D.h.lots.sum := sum_pos hll.1 fun n h => (hkk.lo n h).1
  have hs1 := sum_lt (ns := D.h.lots) (b := 2 ^ 200) (k := 10) (by omega) fun n h => (hkk.lo n h).2
  have hs2 : (10 : Nat) * 2 ^ 200 < 2 ^ 300 := by decide
  refine i4 (ixm em (len_t ?_))
  rw [List.length_map]
  generalize hmany : (qsOf D r.mode).length = many at hql
  have kB : ∀ y : CR.P, y ∈ [CR.P.int (many : Nat), .int (-1), .int ((many : Nat) + 1), .int 60, .int (-(many : Nat) - 1)] → Q (.tup [y, .int 0, .int 0]) M := fun y hy => by
    have key : ∀ z : Int, (z < 0 ∨ (many : Int) ≤ z) → Q (.tup [.int z, .int 0, .int 0]) M := fun z hz => kQ z 0 0 ⟨hs0, fun h0 h1 => by omega, Nat.pow_pos (by decide)⟩
    simp only [List.mem_cons, List.not_mem_nil, or_false] at hy
    rcases hy with rfl | rfl | rfl | rfl | rfl <;> exact key _ (by omega)
  refine eq_i ⟨fun _ => cat_i (fun a M1 na l1 m1 => ⟨d, _, _, rfl, l1 _ _ hd, .inr ⟨a, rfl, m1⟩, by simp, by simp, fun y hy => ⟨M, l1, kB y hy⟩⟩), fun h0 => ?_⟩
  have hpos : 0 < many := by have := of_decide_eq_false h0; omega
  refine dr hd (by decide) (by decide) (fun z hz => eq_i ⟨fun _ => cat_i (fun a M1 na l1 m1 => ⟨d, _, _, rfl, l1 _ _ hd, .inr ⟨a, rfl, m1⟩, by simp, by simp, fun y hy => ⟨M, l1, kB y hy⟩⟩), fun _ => ?_⟩)
  refine dr hd (by omega) (by omega) (fun x hx => dr hd (by decide) (by decide) (fun n0 hn0 => ?_))
  have hx' : x < (qsOf D r.mode).length := by omega
  obtain ⟨q, row, e1, e2, e3, e4, e5, hl, hdr, hs, hg, hgo⟩ := quest_st ok hr hx'
  refine ⟨fun ρ M' => M' = M ∧ ∃ n : Nat, (drawnOf D r.mode x = false → n < (rowOf D r.mode x).sum) ∧ n < 2 ^ 300 ∧ ρ = [some (.ref d), some D.h.p, some (I D.st), some (I r.mode), some (.int (many : Nat)), some (I x), some (I n)], i4 (ixm em (ixm e1 (i0 (eq_s ?_)))), ?_⟩
  · rw [str_shown]
    refine ⟨fun h => i4 (ixm em (ixm e1 (i1 (ixm e2 ?_)))), fun h => ⟨rfl, n0, fun h2 => ?_, Nat.lt_of_lt_of_le (m := 2 ^ 4) (by omega) (Nat.pow_le_pow_right (by decide) (by decide)), rfl⟩⟩
    · have h' : q.drawn = false := by cases z : q.drawn with | false => rfl | true => rw [z] at h; cases h
      obtain ⟨s1, s2, s3⟩ := hs h'
      refine ⟨row.map fun n : Nat => (n : Int), map_I _, ?_⟩
      rw [sum_I]
      refine ⟨d, _, rfl, hd, ⟨by omega, by omega⟩, fun t ht => ⟨rfl, t, fun _ => ?_, by omega, rfl⟩⟩
      rw [e3]
      omega
    · rw [e4] at h2
      rw [h2] at h
      cases h
  · rintro ρ M' ⟨rfl, n, hn1, hn2, rfl⟩
    walk_at "s"
    refine i3 ⟨D.h.lots.map fun n : Nat => (n : Int), map_I _, ?_⟩
    rw [sum_I]
    refine ⟨d, _, rfl, hd, ⟨by omega, by omega⟩, fun t ht => ⟨M', Le.refl, kQ x n t ⟨by omega, fun _ _ h => by rw [Int.toNat_natCast] at h ⊢; exact hn1 h, hn2⟩⟩⟩
def sp_fallen : PSp := fun ps M Q => ∃ (D : Dk) (r : Rd) (j : List Nat) (x : Int) (n m c : Nat), ps = [lawP5 r j, lawP5 (outR D r x n m) (outJ D r j x n m), .int c] ∧ (outJ D r j x n m).length < 2 ^ 20 ∧ Q (lawP5 (fallR D r x n m c) (fallJ D r j x n m c)) M
theorem sp_fallen_len : ∀ vs M Q, sp_fallen vs M Q → vs.length = 3 := fun vs M Q ⟨a, b, c, d, e, f, g, e', _⟩ => by rw [e']; rfl
abbrev s__law_fallen : Stmt := top 154
theorem sc__law_fallen : FnScope ["held_v", "done", "cut", "lines", "size"] ["held_v", "done", "cut"] (defScope s__law_fallen) := ⟨rfl, rfl, rfl, by decide +kernel, rfl, by decide +kernel, by decide +kernel⟩
theorem c__law_fallen (F : Std K mg "_law_fallen" s__law_fallen) (B : BFree mg) : C8.Cal P w K mg base 1 "_law_fallen" (toSp K sp_fallen) [] := by
  refine F.cal sc__law_fallen sp_fallen_len (fun _ _ _ _ _ _ us hl => match us, hl with | [_, _, _], _ => rfl) (fun f cdv A outer s H E hr => ?_)
  have nd := sc__law_fallen.nd
  refine ⟨_, _, (qss_cons (qs_set (i := 3) nd rfl (by first | exact .inl rfl | exact .inr rfl) (qe_sliceK K (qe_ixK K (qe_var (i := 1) rfl (by first | exact .inl rfl | exact .inr (.inl rfl) | exact .inr (.inr rfl))) qe_int) (qo_some (qe_callBK K ac_len call_len rfl B.f_len PySem.boot_len (qa_cons (qe_ixK K (qe_var (i := 0) rfl (by first | exact .inl rfl | exact .inr (.inl rfl) | exact .inr (.inr rfl))) qe_int) qa_nil))) qo_none))
      (qss_cons (qs_set (i := 4) nd rfl (by first | exact .inl rfl | exact .inr rfl) (qe_plusK K (qe_bmSK K PySem.F.plainAttrs_str PySem.F.slot_str_find PySem.F.type_str_find am_find mt_find (qe_var (i := 3) rfl (by first | exact .inl rfl | exact .inr (.inl rfl) | exact .inr (.inr rfl))) (qa_cons qe_str qa_nil)) qe_int))
      (qss_cons (qs_if (qt_lt (qe_var (i := 2) rfl (by first | exact .inl rfl | exact .inr (.inl rfl) | exact .inr (.inr rfl))) (qe_var (i := 4) rfl (by first | exact .inl rfl | exact .inr (.inl rfl) | exact .inr (.inr rfl)))) (qss_one (qs_ret (qe_var (i := 0) rfl (by first | exact .inl rfl | exact .inr (.inl rfl) | exact .inr (.inr rfl))))) qss_nil)
      (qss_cons (qs_if (qt_lt (qe_var (i := 2) rfl (by first | exact .inl rfl | exact .inr (.inl rfl) | exact .inr (.inr rfl))) (qe_callBK K ac_len call_len rfl B.f_len PySem.boot_len (qa_cons (qe_var (i := 3) rfl (by first | exact .inl rfl | exact .inr (.inl rfl) | exact .inr (.inr rfl))) qa_nil))) (qss_one (qs_ret (qe_tup (qa_cons (qe_ixK K (qe_var (i := 0) rfl (by first | exact .inl rfl | exact .inr (.inl rfl) | exact .inr (.inr rfl))) qe_int) (qa_cons (qe_ixK K (qe_var (i := 0) rfl (by first | exact .inl rfl | exact .inr (.inl rfl) | exact .inr (.inr rfl))) qe_int) (qa_cons (qe_ixK K (qe_var (i := 0) rfl (by first | exact .inl rfl | exact .inr (.inl rfl) | exact .inr (.inr rfl))) qe_int) (qa_cons (qe_ixK K (qe_var (i := 1) rfl (by first | exact .inl rfl | exact .inr (.inl rfl) | exact .inr (.inr rfl))) qe_int) (qa_cons (qe_plusK K (qe_ixK K (qe_var (i := 0) rfl (by first | exact .inl rfl | exact .inr (.inl rfl) | exact .inr (.inr rfl))) qe_int) (qe_sliceK K (qe_var (i := 3) rfl (by first | exact .inl rfl | exact .inr (.inl rfl) | exact .inr (.inr rfl))) qo_none (qo_some (qe_var (i := 4) rfl (by first | exact .inl rfl | exact .inr (.inl rfl) | exact .inr (.inr rfl)))))) qa_nil)))))))) qss_nil)
      (qss_one (qs_ret (qe_var (i := 1) rfl (by first | exact .inl rfl | exact .inr (.inl rfl) | exact .inr (.inr rfl))))))))), fun vs M Q h => ?_⟩
  obtain ⟨D, r, j, x, n, m, c, rfl, hl, kQ⟩ := h
  walk_at "s"
  have eJ := outJ_lines D r j x n m
  have hl2 := hl
  rw [eJ, List.length_append] at hl2
  refine i4 (i4 (len_T (by omega) (slFrom hl ?_)))
  rw [eJ, List.drop_left]
  refine find_S (cat_i ?_)
  rw [size_lines]
  refine ⟨fun h1 => ⟨M, Le.refl, ?_⟩, fun h1 => len_T (by omega) ⟨fun h2 => i0 (i1 (i2 (i3 (i4 (slTo (by omega) (cat_T ?_ ⟨M, Le.refl, ?_⟩)))))), fun h2 => ⟨M, Le.refl, ?_⟩⟩⟩
  · have h1' := of_decide_eq_true h1
    cases ho : outOf D r x with
    | told =>
      unfold fallR fallJ at kQ
      unfold sizeOf at h1'
      rw [ho] at kQ h1'
      dsimp only at kQ h1'
      have c1 : c < (askT D r x.toNat).length := by omega
      rw [if_pos c1, if_pos c1] at kQ
      exact kQ
    | bad =>
      unfold sizeOf at h1'
      rw [ho] at h1'
      dsimp only at h1'
      omega
    | left =>
      unfold sizeOf at h1'
      rw [ho] at h1'
      dsimp only at h1'
      omega
  · rw [List.length_take]
    omega
  · have h1' := of_decide_eq_false h1
    have h2' := of_decide_eq_true h2
    cases ho : outOf D r x with
    | told =>
      unfold fallR fallJ at kQ
      unfold sizeOf at h1'
      unfold linesOf at h2'
      rw [ho] at kQ h1' h2'
      dsimp only at kQ h1' h2'
      have c1 : ¬ c < (askT D r x.toNat).length := by omega
      have c2 : c < (askT D r x.toNat ++ sayT D r x.toNat n m).length := by omega
      rw [if_neg c1, if_neg c1, if_pos c2, if_pos c2] at kQ
      have e1 : (linesOf D r x n m).take (sizeOf D r x) = askT D r x.toNat := by
        unfold linesOf sizeOf
        rw [ho]
        exact List.take_left
      have e2 : outR D r x n m = sayR D r x.toNat n m := by unfold outR; rw [ho]
      rw [e1, e2]
      exact kQ
    | bad =>
      unfold linesOf at h2'
      rw [ho] at h2'
      simp at h2'
      omega
    | left =>
      unfold linesOf at h2'
      rw [ho] at h2'
      simp at h2'
      omega
  · have h2' := of_decide_eq_false h2
    rw [← eJ]
    cases ho : outOf D r x with
    | told =>
      unfold fallR fallJ at kQ
      unfold linesOf at h2'
      rw [ho] at kQ h2'
      dsimp only at kQ h2'
      have c2 : ¬ c < (askT D r x.toNat ++ sayT D r x.toNat n m).length := by omega
      have c1 : ¬ c < (askT D r x.toNat).length := by rw [List.length_append] at c2; omega
      rw [if_neg c1, if_neg c1, if_neg c2, if_neg c2] at kQ
      unfold outR outJ
      rw [ho]
      exact kQ
    | bad =>
      unfold fallR fallJ at kQ
      unfold outR outJ
      rw [ho] at kQ ⊢
      exact kQ
    | left =>
      unfold fallR fallJ at kQ
      unfold outR outJ
      rw [ho] at kQ ⊢
      exact kQ
def sp_anew (CG CS : Addr) : PSp := fun ps M Q => ∃ (D : Dk) (ns : List Nat) (dk : Addr) (k : Nat) (l : List Nat) (first : Nat), ps = [.ref dk, T l, .int first] ∧ M dk = some (.lst (deskL D ns)) ∧ D.Ok ∧ D.h.Ok k ∧ (∀ n ∈ ns, n < k) ∧ stN D.h.rd 0 ns = D.st ∧ first < D.h.lots.sum ∧ IsLn l ∧ l.length < 2 ^ 19 ∧ Q (.bl true) M
theorem sp_anew_len (CG CS : Addr) : ∀ vs M Q, sp_anew CG CS vs M Q → vs.length = 3 := fun vs M Q ⟨a, b, c, d, e, f, e', _⟩ => by rw [e']; rfl
abbrev s__law_begins_anew : Stmt := top 155
theorem sc__law_begins_anew : FnScope ["desk", "line", "ticket", "held_v", "cut", "guard"] ["desk", "line", "ticket"] (defScope s__law_begins_anew) := ⟨rfl, rfl, rfl, by decide +kernel, rfl, by decide +kernel, by decide +kernel⟩
theorem c__law_begins_anew {C_Guard : Addr} {C_Sitting : Addr} (F : Std K mg "_law_begins_anew" s__law_begins_anew) (B : BFree mg) (g_Guard : mg "Guard" = some (.ref C_Guard)) (d_Guard_resumed : CMD P w K mg base 7 C_Guard "resumed" "Guard.resumed" (meth 108 1) [0] ["cls", "house", "table", "prices", "budget", "journal", "first"] (toSp K (sp_resumed C_Guard C_Sitting))) (c__law_begun : C8.Cal P w K mg base 2 "_law_begun" (toSp K sp_begun) []) (c__law_shows : C8.Cal P w K mg base 5 "_law_shows" (toSp K (sp_shows C_Guard C_Sitting)) []) (c_read_journal : C8.Cal P w K mg base 6 "read_journal" (toSp K sp_readj) []) : C8.Cal P w K mg base 8 "_law_begins_anew" (toSp K (sp_anew C_Guard C_Sitting)) [] := by
  refine F.cal sc__law_begins_anew (sp_anew_len C_Guard C_Sitting) (fun _ _ _ _ _ _ us hl => match us, hl with | [_, _, _], _ => rfl) (fun f cdv A outer s H E hr => ?_)
  have nd := sc__law_begins_anew.nd
  refine ⟨_, _, (qss_cons (qs_set (i := 3) nd rfl (by first | exact .inl rfl | exact .inr rfl) (qe_callK K c__law_begun hr (by decide) rfl (qa_cons (qe_ixK K (qe_var (i := 0) rfl (by first | exact .inl rfl | exact .inr (.inl rfl) | exact .inr (.inr rfl))) qe_int) (qa_cons (qe_var (i := 2) rfl (by first | exact .inl rfl | exact .inr (.inl rfl) | exact .inr (.inr rfl))) qa_nil))))
      (qss_cut (qs_for PassesOwn.never rfl (qi_rng1 rfl B.f_range (qa_cons (qe_callBK K ac_len call_len rfl B.f_len PySem.boot_len (qa_cons (qe_var (i := 1) rfl (by first | exact .inl rfl | exact .inr (.inl rfl) | exact .inr (.inr rfl))) qa_nil)) qa_nil)) (qg_name (i := 4) nd rfl (by first | exact .inl rfl | exact .inr rfl)) (qss_cons (qs_if (qt_notN (qe_callK K c_read_journal hr (by decide) rfl (qa_cons (qe_ixK K (qe_var (i := 0) rfl (by first | exact .inl rfl | exact .inr (.inl rfl) | exact .inr (.inr rfl))) qe_int) (qa_cons (qe_ixK K (qe_var (i := 0) rfl (by first | exact .inl rfl | exact .inr (.inl rfl) | exact .inr (.inr rfl))) qe_int) (qa_cons (qe_ixK K (qe_var (i := 0) rfl (by first | exact .inl rfl | exact .inr (.inl rfl) | exact .inr (.inr rfl))) qe_int) (qa_cons (qe_sliceK K (qe_var (i := 1) rfl (by first | exact .inl rfl | exact .inr (.inl rfl) | exact .inr (.inr rfl))) qo_none (qo_some (qe_var (i := 4) rfl (by first | exact .inl rfl | exact .inr (.inl rfl) | exact .inr (.inr rfl))))) qa_nil))))) qe_non) (qss_one (qs_ret qe_bl)) qss_nil)
      (qss_cons (qs_set (i := 5) nd rfl (by first | exact .inl rfl | exact .inr rfl) (qe_cmK (n := 7) (a := 1) (b := 0) (ks := []) d_Guard_resumed hr (by decide) (qe_glob (v := .ref C_Guard) (p := .ref C_Guard) rfl g_Guard rfl (fun _ => rfl)) (qa_cons (qe_ixK K (qe_var (i := 0) rfl (by first | exact .inl rfl | exact .inr (.inl rfl) | exact .inr (.inr rfl))) qe_int) (qa_cons (qe_ixK K (qe_var (i := 0) rfl (by first | exact .inl rfl | exact .inr (.inl rfl) | exact .inr (.inr rfl))) qe_int) (qa_cons (qe_ixK K (qe_var (i := 0) rfl (by first | exact .inl rfl | exact .inr (.inl rfl) | exact .inr (.inr rfl))) qe_int) (qa_cons (qe_ixK K (qe_var (i := 0) rfl (by first | exact .inl rfl | exact .inr (.inl rfl) | exact .inr (.inr rfl))) qe_int) (qa_cons (qe_sliceK K (qe_var (i := 1) rfl (by first | exact .inl rfl | exact .inr (.inl rfl) | exact .inr (.inr rfl))) qo_none (qo_some (qe_var (i := 4) rfl (by first | exact .inl rfl | exact .inr (.inl rfl) | exact .inr (.inr rfl))))) (qa_cons (qe_var (i := 2) rfl (by first | exact .inl rfl | exact .inr (.inl rfl) | exact .inr (.inr rfl))) qa_nil)))))) qk_nil (fun F => kb_d F 7 [] 1 0 (by simp) (fun T _ _ _ _ _ _ us its ws h1 h2 h3 => match us, h1, its, h2, ws, h3 with | [_, _, _, _, _, _, _], _, [_], _, [], _ => ⟨_, rfl, rfl⟩))))
      (qss_one (qs_if (qt_not (qt_val (qe_callK K c__law_shows hr (by decide) rfl (qa_cons (qe_var (i := 5) rfl (by first | exact .inl rfl | exact .inr (.inl rfl) | exact .inr (.inr rfl))) (qa_cons (qe_var (i := 3) rfl (by first | exact .inl rfl | exact .inr (.inl rfl) | exact .inr (.inr rfl))) qa_nil))))) (qss_one (qs_ret qe_bl)) qss_nil)))))
      (qss_one (qs_ret qe_bl)))), fun vs M Q h => ?_⟩
  obtain ⟨D, ns, dk, k, l, first, rfl, hdk, ok, hk, hn, hst, hf, hl, hll, kQ⟩ := h
  walk_at "s"
  have hln := lots_le ok
  have hlt := numOf_lt _ _ hf
  refine ix_l hdk (by decide) rfl ⟨D.h, first, rfl, hln, hf, ?_⟩
  refine ⟨fun ρ M' => Le M M', len_T (by omega) ⟨⟨by omega, by omega⟩, for_rng (fun c ρ M' => Le M M' ∧ ∃ u v, ρ = [some (.ref dk), some (T l), some (.int first), some (lawP5 (rd0 (numOf D.h.lots first)) (lineL (lotW (numOf D.h.lots first)))), u, v]) ⟨Le.refl, _, _, rfl⟩ (fun c ρ M1 hc ⟨l1, u, v, eρ⟩ => ?_) (fun ρ M' h => h.1)⟩, fun ρ M' h => ⟨M, h, kQ⟩⟩
  subst eρ
  have hdk1 := l1 _ _ hdk
  have hno : 10 ∉ l.take c := ln_take hl (by omega)
  obtain ⟨q1, q2⟩ := readJ_no (D := D) hno
  have q3 : (l.take c).length ≤ l.length := by rw [List.length_take]; omega
  walk_at "s"
  rw [show (0 : Int) + c = (c : Int) by omega]
  refine ix_l hdk1 (by decide) rfl (ix_l hdk1 (by decide) rfl (ix_l hdk1 (by decide) rfl (slTo (by omega) ⟨D, l.take c, rfl, ok, by omega, by omega, ?_⟩)))
  rw [q1]
  refine ⟨fun h => (by cases h), fun _ => ⟨rfl, ix_l hdk1 (by decide) rfl (ix_l hdk1 (by decide) rfl (ix_l hdk1 (by decide) rfl (ix_l hdk1 (by decide) rfl (slTo (by omega) ⟨rfl, rfl, D, k, ns, l.take c, first, rfl, ok, hk, hn, hst, hf, by omega, by omega, fun g M2 hg => ?_⟩))))⟩⟩
  unfold jOf at hg
  rw [q1] at hg
  refine ⟨g, D, _, _, 0, rfl, hg.at, rd0_ok ok hlt, by decide, (by show Int.gcd 1 1 = 1; decide), plain_lot _, ?_⟩
  exact ⟨fun _ => ⟨l1.trans hg.1, _, _, rfl⟩, fun h => (by cases h)⟩
end
end CR

set_option Elab.async false
set_option linter.all false
set_option maxRecDepth 100000
set_option maxHeartbeats 4000000
set_option exponentiation.threshold 300000
namespace CR
open PySem PySem.Spec L2
local macro_rules | `(tactic| walk_at "s") => `(tactic| dsimp only [fRet, fSeq, fCut, fAsg, fDrop, fIfS, fNext, fBreak, fCont, fVar, fC, fOp, fCall, fCons, fNil, fCB, fBMS, fBML, fTup, fLst, fTest, fNot, fAnd, fOr, fAndV, fOrV, fNotV, fIf, fNeg, fChain, fGName, fGTup, fGCons, fGNil, fAugI, fSl, fPart, fNoPart, fRevL, fLstRg, fRepl, fFld, fSFld, fMeth, fProp, fPropSet, fMake, fMakeV, fCMeth, fGSub, fAugSub, fISeq, fIStr, fIRng1, fIRng2, fFor, fWhile, fLc, fYes, fIsi, fOf, fSeqX, fIfX, fRaise, fSetMX, fTry, fFldX, fIsX, fCMK, fMD, nth, lawS, startP, setS, clrS, wipeS, fnEnds, pI0, pI])
local macro_rules | `(tactic| walk_at "d") => `(tactic| try dsimp only)
section
variable {P : Program} {w : World} {K : PySem.W.Frag} {mg : Str → Option Value} {base : Heap}
open SX
theorem size_le (D : Dk) (r : Rd) (x : Int) (n m : Nat) : sizeOf D r x ≤ (linesOf D r x n m).length := by
  unfold sizeOf linesOf
  cases outOf D r x with
  | told => dsimp only; rw [List.length_append]; omega
  | bad => exact Nat.le_refl _
  | left => exact Nat.le_refl _
theorem call0 {D : Dk} (ok : D.Ok) {r : Rd} {k : Nat} (hr : r.Ok D k) {x : Int} {m : Nat} (hm : m < D.h.lots.sum) : CallOk D r x 0 m := ⟨hm, fun h0 h1 h2 => by
  obtain ⟨q, row, e1, e2, e3, e4, e5, hl, hd, hs, hg, hgo⟩ := quest_st ok hr (x := x.toNat) (by omega)
  rw [e3]
  rw [e4] at h2
  exact (hs h2).2.1, Nat.pow_pos (by decide)⟩
def sp_falls (CG CS : Addr) : PSp := fun ps M Q => ∃ (D : Dk) (ns : List Nat) (d dk : Addr) (kk k : Nat) (r : Rd) (j : List Nat) (x : Int) (n m : Nat), ps = [.ref d, .ref dk, lawP5 r j, lawP5 (outR D r x n m) (outJ D r j x n m)] ∧ M d = some .drw ∧ M dk = some (.lst (deskL D ns)) ∧ D.Ok ∧ D.h.Ok kk ∧ (∀ n ∈ ns, n < kk) ∧ stN D.h.rd 0 ns = D.st ∧ Jn D k r j ∧ k ≤ 30 ∧ CallOk D r x n m ∧
  ∀ r2 j2 g a M', (∃ c, r2 = fallR D r x n m c) → Jn D (k + 2) r2 j2 → Le M M' → M a = none → M' a = some (.lst [.ref g, lawP5 r2 j2]) → GuAt CG CS M' g D r2 j2 → Q (.ref a) M'
theorem sp_falls_len (CG CS : Addr) : ∀ vs M Q, sp_falls CG CS vs M Q → vs.length = 4 := fun vs M Q ⟨a, b, c, d, e, f, g, h, i, j, k, e', _⟩ => by rw [e']; rfl
abbrev s__law_falls : Stmt := top 157
theorem sc__law_falls : FnScope ["d", "desk", "held_v", "done", "lines", "size", "cut", "text", "then", "guard"] ["d", "desk", "held_v", "done"] (defScope s__law_falls) := ⟨rfl, rfl, rfl, by decide +kernel, rfl, by decide +kernel, by decide +kernel⟩
theorem c__law_falls {C_Guard : Addr} {C_Sitting : Addr} (F : Std K mg "_law_falls" s__law_falls) (B : BFree mg) (g_Guard : mg "Guard" = some (.ref C_Guard)) (p_Guard_journal : PropCal P w K mg base 1 C_Guard "journal" (toSp K (sp_gjournal C_Guard C_Sitting))) (d_Guard_resumed : CMD P w K mg base 7 C_Guard "resumed" "Guard.resumed" (meth 108 1) [0] ["cls", "house", "table", "prices", "budget", "journal", "first"] (toSp K (sp_resumed C_Guard C_Sitting))) (c__law_draw : C8.Cal P w K mg base 1 "_law_draw" (toSp K sp_draw) []) (c__law_fallen : C8.Cal P w K mg base 1 "_law_fallen" (toSp K sp_fallen) []) (c__law_is_read : C8.Cal P w K mg base 7 "_law_is_read" (toSp K sp_isread) []) (c__law_pick : C8.Cal P w K mg base 2 "_law_pick" (toSp K sp_pick) []) (c__law_shows : C8.Cal P w K mg base 5 "_law_shows" (toSp K (sp_shows C_Guard C_Sitting)) []) (c__law_ticket : C8.Cal P w K mg base 2 "_law_ticket" (toSp K sp_ticket) []) : C8.Cal P w K mg base 8 "_law_falls" (toSp K (sp_falls C_Guard C_Sitting)) [] := by
  refine F.cal sc__law_falls (sp_falls_len C_Guard C_Sitting) (fun _ _ _ _ _ _ us hl => match us, hl with | [_, _, _, _], _ => rfl) (fun f cdv A outer s H E hr => ?_)
  have nd := sc__law_falls.nd
  refine ⟨_, _, (qss_cons (qs_set (i := 4) nd rfl (by first | exact .inl rfl | exact .inr rfl) (qe_sliceK K (qe_ixK K (qe_var (i := 3) rfl (by first | exact .inl rfl | exact .inr (.inl rfl) | exact .inr (.inr rfl))) qe_int) (qo_some (qe_callBK K ac_len call_len rfl B.f_len PySem.boot_len (qa_cons (qe_ixK K (qe_var (i := 2) rfl (by first | exact .inl rfl | exact .inr (.inl rfl) | exact .inr (.inr rfl))) qe_int) qa_nil))) qo_none))
      (qss_cons (qs_set (i := 5) nd rfl (by first | exact .inl rfl | exact .inr rfl) (qe_plusK K (qe_bmSK K PySem.F.plainAttrs_str PySem.F.slot_str_find PySem.F.type_str_find am_find mt_find (qe_var (i := 4) rfl (by first | exact .inl rfl | exact .inr (.inl rfl) | exact .inr (.inr rfl))) (qa_cons qe_str qa_nil)) qe_int))
      (qss_cons (qs_set (i := 6) nd rfl (by first | exact .inl rfl | exact .inr rfl) (qe_callBK K ac_max2 (call_max2 rfl) rfl B.f_max (by decide +kernel) (qa_cons qe_int (qa_cons (qe_callK K c__law_pick hr (by decide) rfl (qa_cons (qe_var (i := 0) rfl (by first | exact .inl rfl | exact .inr (.inl rfl) | exact .inr (.inr rfl))) (qa_cons (qe_lst (qa_cons (qe_callK K c__law_draw hr (by decide) rfl (qa_cons (qe_var (i := 0) rfl (by first | exact .inl rfl | exact .inr (.inl rfl) | exact .inr (.inr rfl))) (qa_cons (qe_plusK K (qe_callBK K ac_len call_len rfl B.f_len PySem.boot_len (qa_cons (qe_var (i := 4) rfl (by first | exact .inl rfl | exact .inr (.inl rfl) | exact .inr (.inr rfl))) qa_nil)) qe_int) qa_nil))) (qa_cons (qe_var (i := 5) rfl (by first | exact .inl rfl | exact .inr (.inl rfl) | exact .inr (.inr rfl))) (qa_cons (qe_callBK K ac_len call_len rfl B.f_len PySem.boot_len (qa_cons (qe_var (i := 4) rfl (by first | exact .inl rfl | exact .inr (.inl rfl) | exact .inr (.inr rfl))) qa_nil)) (qa_cons (qe_sub (qe_var (i := 5) rfl (by first | exact .inl rfl | exact .inr (.inl rfl) | exact .inr (.inr rfl))) qe_int) (qa_cons (qe_sub (qe_callBK K ac_len call_len rfl B.f_len PySem.boot_len (qa_cons (qe_var (i := 4) rfl (by first | exact .inl rfl | exact .inr (.inl rfl) | exact .inr (.inr rfl))) qa_nil)) qe_int) qa_nil)))))) qa_nil))) qa_nil))))
      (qss_cons (qs_set (i := 7) nd rfl (by first | exact .inl rfl | exact .inr rfl) (qe_plusK K (qe_ixK K (qe_var (i := 2) rfl (by first | exact .inl rfl | exact .inr (.inl rfl) | exact .inr (.inr rfl))) qe_int) (qe_sliceK K (qe_var (i := 4) rfl (by first | exact .inl rfl | exact .inr (.inl rfl) | exact .inr (.inr rfl))) qo_none (qo_some (qe_var (i := 6) rfl (by first | exact .inl rfl | exact .inr (.inl rfl) | exact .inr (.inr rfl)))))))
      (qss_cons (qs_set (i := 8) nd rfl (by first | exact .inl rfl | exact .inr rfl) (qe_callK K c__law_fallen hr (by decide) rfl (qa_cons (qe_var (i := 2) rfl (by first | exact .inl rfl | exact .inr (.inl rfl) | exact .inr (.inr rfl))) (qa_cons (qe_var (i := 3) rfl (by first | exact .inl rfl | exact .inr (.inl rfl) | exact .inr (.inr rfl))) (qa_cons (qe_var (i := 6) rfl (by first | exact .inl rfl | exact .inr (.inl rfl) | exact .inr (.inr rfl))) qa_nil)))))
      (qss_cons (qs_if (qt_not (qt_val (qe_callK K c__law_is_read hr (by decide) rfl (qa_cons (qe_var (i := 1) rfl (by first | exact .inl rfl | exact .inr (.inl rfl) | exact .inr (.inr rfl))) (qa_cons (qe_var (i := 7) rfl (by first | exact .inl rfl | exact .inr (.inl rfl) | exact .inr (.inr rfl))) (qa_cons (qe_var (i := 8) rfl (by first | exact .inl rfl | exact .inr (.inl rfl) | exact .inr (.inr rfl))) qa_nil)))))) (qss_one (qs_ret qe_non)) qss_nil)
      (qss_cons (qs_set (i := 9) nd rfl (by first | exact .inl rfl | exact .inr rfl) (qe_cmK (n := 7) (a := 1) (b := 0) (ks := []) d_Guard_resumed hr (by decide) (qe_glob (v := .ref C_Guard) (p := .ref C_Guard) rfl g_Guard rfl (fun _ => rfl)) (qa_cons (qe_ixK K (qe_var (i := 1) rfl (by first | exact .inl rfl | exact .inr (.inl rfl) | exact .inr (.inr rfl))) qe_int) (qa_cons (qe_ixK K (qe_var (i := 1) rfl (by first | exact .inl rfl | exact .inr (.inl rfl) | exact .inr (.inr rfl))) qe_int) (qa_cons (qe_ixK K (qe_var (i := 1) rfl (by first | exact .inl rfl | exact .inr (.inl rfl) | exact .inr (.inr rfl))) qe_int) (qa_cons (qe_ixK K (qe_var (i := 1) rfl (by first | exact .inl rfl | exact .inr (.inl rfl) | exact .inr (.inr rfl))) qe_int) (qa_cons (qe_var (i := 7) rfl (by first | exact .inl rfl | exact .inr (.inl rfl) | exact .inr (.inr rfl))) (qa_cons (qe_callK K c__law_ticket hr (by decide) rfl (qa_cons (qe_var (i := 0) rfl (by first | exact .inl rfl | exact .inr (.inl rfl) | exact .inr (.inr rfl))) (qa_cons (qe_callBK K ac_sum (cr_sumA rfl) rfl B.f_sum (by decide +kernel) (qa_cons (qe_ixK K (qe_ixK K (qe_var (i := 1) rfl (by first | exact .inl rfl | exact .inr (.inl rfl) | exact .inr (.inr rfl))) qe_int) qe_int) qa_nil)) qa_nil))) qa_nil)))))) qk_nil (fun F => kb_d F 7 [] 1 0 (by simp) (fun T _ _ _ _ _ _ us its ws h1 h2 h3 => match us, h1, its, h2, ws, h3 with | [_, _, _, _, _, _, _], _, [_], _, [], _ => ⟨_, rfl, rfl⟩))))
      (qss_cons (qs_if (qt_not (qt_val (qe_callK K c__law_shows hr (by decide) rfl (qa_cons (qe_var (i := 9) rfl (by first | exact .inl rfl | exact .inr (.inl rfl) | exact .inr (.inr rfl))) (qa_cons (qe_var (i := 8) rfl (by first | exact .inl rfl | exact .inr (.inl rfl) | exact .inr (.inr rfl))) qa_nil))))) (qss_one (qs_ret qe_non)) qss_nil)
      (qss_cons (qs_if (qt_not (qt_val (qe_callK K c__law_shows hr (by decide) rfl (qa_cons (qe_cmK (n := 6) (a := 0) (b := 1) (ks := []) d_Guard_resumed hr (by decide) (qe_glob (v := .ref C_Guard) (p := .ref C_Guard) rfl g_Guard rfl (fun _ => rfl)) (qa_cons (qe_ixK K (qe_var (i := 1) rfl (by first | exact .inl rfl | exact .inr (.inl rfl) | exact .inr (.inr rfl))) qe_int) (qa_cons (qe_ixK K (qe_var (i := 1) rfl (by first | exact .inl rfl | exact .inr (.inl rfl) | exact .inr (.inr rfl))) qe_int) (qa_cons (qe_ixK K (qe_var (i := 1) rfl (by first | exact .inl rfl | exact .inr (.inl rfl) | exact .inr (.inr rfl))) qe_int) (qa_cons (qe_ixK K (qe_var (i := 1) rfl (by first | exact .inl rfl | exact .inr (.inl rfl) | exact .inr (.inr rfl))) qe_int) (qa_cons (qe_prop p_Guard_journal hr (by decide) (qe_var (i := 9) rfl (by first | exact .inl rfl | exact .inr (.inl rfl) | exact .inr (.inr rfl)))) qa_nil))))) qk_nil (fun F => kb_d F 6 [] 0 1 (by simp) (fun T _ _ _ _ _ _ us its ws h1 h2 h3 => match us, h1, its, h2, ws, h3 with | [_, _, _, _, _, _], _, [_], _, [], _ => ⟨_, rfl, rfl⟩))) (qa_cons (qe_var (i := 8) rfl (by first | exact .inl rfl | exact .inr (.inl rfl) | exact .inr (.inr rfl))) qa_nil))))) (qss_one (qs_ret qe_non)) qss_nil)
      (qss_one (qs_ret (qe_lst (qa_cons (qe_var (i := 9) rfl (by first | exact .inl rfl | exact .inr (.inl rfl) | exact .inr (.inr rfl))) (qa_cons (qe_var (i := 8) rfl (by first | exact .inl rfl | exact .inr (.inl rfl) | exact .inr (.inr rfl))) qa_nil)))))))))))))), fun vs M Q h => ?_⟩
  obtain ⟨D, ns, d, dk, kk, k, r, j, x, n, m, rfl, hd, hdk, ok, hkk, hns, hst, hj, hk, hc, kQ⟩ := h
  have ho := out_ok ok hj (by omega) hc
  have eJ := outJ_lines D r j x n m
  have hl := ho.ln
  have hl2 := hl
  rw [eJ, List.length_append] at hl2
  walk_at "s"
  refine i4 (i4 (len_T (by omega) (slFrom (by omega) ?_)))
  rw [eJ, List.drop_left]
  refine find_S (cat_i ?_)
  rw [size_lines]
  have hll := hkk.ll
  have hs0 : 0 < D.h.lots.sum := sum_pos hll.1 fun n h => (hkk.lo n h).1
  have hs1 := sum_lt (ns := D.h.lots) (b := 2 ^ 200) (k := 10) (by omega) fun n h => (hkk.lo n h).2
  have hs2 : (10 : Nat) * 2 ^ 200 < 2 ^ 300 := by decide
  have hsz : sizeOf D r x ≤ (linesOf D r x n m).length := size_le D r x n m
  refine len_T (by omega) (cat_i (dr hd (by omega) (by omega) (fun c0 hc0 => len_T (by omega) (len_T (by omega) (fun a M1 na l1 m1 => ?_)))))
  have hd1 := l1 _ _ hd
  have hdk1 := l1 _ _ hdk
  refine ⟨d, _, _, rfl, hd1, .inr ⟨a, rfl, m1⟩, by simp, by simp, fun y hy => ?_⟩
  obtain ⟨i, rfl, hi⟩ : ∃ i : Int, y = .int i ∧ i ≤ (linesOf D r x n m).length := by
    simp only [List.mem_cons, List.not_mem_nil, or_false] at hy
    rcases hy with rfl | rfl | rfl | rfl | rfl <;> exact ⟨_, rfl, by omega⟩
  obtain ⟨c, ec, hc1⟩ : ∃ c : Nat, (if i > 0 then i else 0) = (c : Int) ∧ c ≤ (linesOf D r x n m).length := by
    split
    · exact ⟨i.toNat, by omega, by omega⟩
    · exact ⟨0, rfl, by omega⟩
  refine max_i (i4 ?_)
  rw [ec]
  obtain ⟨f1, f2, f3⟩ := fall_ok ok hj (by omega) hc hc1
  have ft : ((linesOf D r x n m).take c).length ≤ (linesOf D r x n m).length := by rw [List.length_take]; omega
  have f4 : (j ++ (linesOf D r x n m).take c).length < 2 ^ 19 := by rw [List.length_append]; omega
  refine slTo (by omega) (cat_T (by omega) ⟨D, r, j, x, n, m, c, by rw [eJ], by omega, ?_⟩)
  refine ⟨D, ns, dk, _, _, _, rfl, f1, hdk1, ok, by omega, by omega, ?_⟩
  refine ⟨fun _ => ⟨rfl, ix_l hdk1 (by decide) rfl (ix_l hdk1 (by decide) rfl (ix_l hdk1 (by decide) rfl (ix_l hdk1 (by decide) rfl (ix_l hdk1 (by decide) rfl (i3 ?_)))))⟩, fun h => (by cases h)⟩
  refine ⟨D.h.lots.map fun n : Nat => (n : Int), map_I _, ?_⟩
  rw [sum_I]
  refine ⟨d, _, rfl, hd1, ⟨by omega, by omega⟩, fun t ht => ⟨rfl, rfl, D, kk, ns, _, t, rfl, ok, hkk, hns, hst, by omega, by omega, by omega, fun g M2 hg => ?_⟩⟩
  unfold jOf at hg
  rw [f1] at hg
  change GuNew C_Guard C_Sitting M1 M2 g D (fallR D r x n m c) (fallJ D r j x n m c) at hg
  refine ⟨g, D, _, _, k + 2, rfl, hg.at, f3.ok, by omega, f3.g, f3.pl, ?_⟩
  have hdk2 := hg.1 _ _ hdk1
  obtain ⟨dx, st, hm, hs⟩ := id hg.at
  have b3 := f3.ln
  obtain ⟨g1, g2⟩ := f3.read0 ok
  refine ⟨fun _ => ⟨rfl, ix_l hdk2 (by decide) rfl (ix_l hdk2 (by decide) rfl (ix_l hdk2 (by decide) rfl (ix_l hdk2 (by decide) rfl ⟨dx, _, hm, g, D, _, _, rfl, hg.at, ?_⟩)))⟩, fun h => (by cases h)⟩
  refine ⟨rfl, rfl, D, kk, ns, _, 0, rfl, ok, hkk, hns, hst, hs0, by omega, by omega, fun g' M3 hg' => ?_⟩
  unfold jOf at hg'
  rw [g1] at hg'
  change GuNew C_Guard C_Sitting M2 M3 g' D (fallR D r x n m c) (fallJ D r j x n m c) at hg'
  refine ⟨g', D, _, _, k + 2, rfl, hg'.at, f3.ok, by omega, f3.g, f3.pl, ?_⟩
  refine ⟨fun _ => ?_, fun h => (by cases h)⟩
  intro b M4 nb l4 m4
  have l03 := (l1.trans hg.1).trans hg'.1
  exact ⟨M4, Le.refl, kQ _ _ g b M4 ⟨c, rfl⟩ f3 (l03.trans l4) (l03.none nb) m4 (hg.at.le (hg'.1.trans l4))⟩
def sp_falle (K : PySem.W.Frag) (CG CS CB CR' : Addr) : PSp := fun ps M Q => ∃ (D : Dk) (ns : List Nat) (d dk : Addr) (kk k : Nat) (r : Rd) (j : List Nat) (x : Int) (n m : Nat), ps = [.ref d, .ref dk, lawP5 r j, lawP5 (outR D r x n m) (outJ D r j x n m)] ∧ M d = some .drw ∧ M dk = some (.lst (deskL D ns)) ∧ D.Ok ∧ D.h.Ok kk ∧ (∀ n ∈ ns, n < kk) ∧ stN D.h.rd 0 ns = D.st ∧ Jn D k r j ∧ k ≤ 30 ∧ CallOk D r x n m ∧ Q (.bl true) M
theorem sp_falle_len (K : PySem.W.Frag) (CG CS CB CR' : Addr) : ∀ vs M Q, sp_falle K CG CS CB CR' vs M Q → vs.length = 4 := fun vs M Q ⟨a, b, c, d, e, f, g, h, i, j, k, e', _⟩ => by rw [e']; rfl
abbrev s__law_falls_everywhere : Stmt := top 156
theorem sc__law_falls_everywhere : FnScope ["d", "desk", "held_v", "done", "lines", "size", "many", "call", "ticket", "cut", "text", "then", "guard", "due"] ["d", "desk", "held_v", "done"] (defScope s__law_falls_everywhere) := ⟨rfl, rfl, rfl, by decide +kernel, rfl, by decide +kernel, by decide +kernel⟩
theorem c__law_falls_everywhere {C_BadQuestion : Addr} {C_Guard : Addr} {C_Refused : Addr} {C_Sitting : Addr} (F : Std K mg "_law_falls_everywhere" s__law_falls_everywhere) (B : BFree mg) (g_Guard : mg "Guard" = some (.ref C_Guard)) (d_Guard_resumed : CMD P w K mg base 7 C_Guard "resumed" "Guard.resumed" (meth 108 1) [0] ["cls", "house", "table", "prices", "budget", "journal", "first"] (toSp K (sp_resumed C_Guard C_Sitting))) (c__law_asked : C8.Cal P w K mg base 5 "_law_asked" (toSp K (sp_askedl K C_Guard C_Sitting C_BadQuestion C_Refused)) []) (c__law_call : C8.Cal P w K mg base 4 "_law_call" (toSp K sp_call) []) (c__law_draw : C8.Cal P w K mg base 1 "_law_draw" (toSp K sp_draw) []) (c__law_fallen : C8.Cal P w K mg base 1 "_law_fallen" (toSp K sp_fallen) []) (c__law_is_read : C8.Cal P w K mg base 7 "_law_is_read" (toSp K sp_isread) []) (c__law_is_told : C8.Cal P w K mg base 3 "_law_is_told" (toSp K sp_istold) []) (c__law_shows : C8.Cal P w K mg base 5 "_law_shows" (toSp K (sp_shows C_Guard C_Sitting)) []) (c__law_ticket : C8.Cal P w K mg base 2 "_law_ticket" (toSp K sp_ticket) []) : C8.Cal P w K mg base 8 "_law_falls_everywhere" (toSp K (sp_falle K C_Guard C_Sitting C_BadQuestion C_Refused)) [] := by
  refine F.cal sc__law_falls_everywhere (sp_falle_len K C_Guard C_Sitting C_BadQuestion C_Refused) (fun _ _ _ _ _ _ us hl => match us, hl with | [_, _, _, _], _ => rfl) (fun f cdv A outer s H E hr => ?_)
  have nd := sc__law_falls_everywhere.nd
  refine ⟨_, _, (qss_cons (qs_set (i := 4) nd rfl (by first | exact .inl rfl | exact .inr rfl) (qe_sliceK K (qe_ixK K (qe_var (i := 3) rfl (by first | exact .inl rfl | exact .inr (.inl rfl) | exact .inr (.inr rfl))) qe_int) (qo_some (qe_callBK K ac_len call_len rfl B.f_len PySem.boot_len (qa_cons (qe_ixK K (qe_var (i := 2) rfl (by first | exact .inl rfl | exact .inr (.inl rfl) | exact .inr (.inr rfl))) qe_int) qa_nil))) qo_none))
      (qss_cons (qs_set (i := 5) nd rfl (by first | exact .inl rfl | exact .inr rfl) (qe_plusK K (qe_bmSK K PySem.F.plainAttrs_str PySem.F.slot_str_find PySem.F.type_str_find am_find mt_find (qe_var (i := 4) rfl (by first | exact .inl rfl | exact .inr (.inl rfl) | exact .inr (.inr rfl))) (qa_cons qe_str qa_nil)) qe_int))
      (qss_cons (qs_set (i := 6) nd rfl (by first | exact .inl rfl | exact .inr rfl) (qe_callBK K ac_sum (cr_sumA rfl) rfl B.f_sum (by decide +kernel) (qa_cons (qe_ixK K (qe_ixK K (qe_var (i := 1) rfl (by first | exact .inl rfl | exact .inr (.inl rfl) | exact .inr (.inr rfl))) qe_int) qe_int) qa_nil)))
      (qss_cons (qs_set (i := 7) nd rfl (by first | exact .inl rfl | exact .inr rfl) (qe_tup (qa_cons (qe_callK K c__law_draw hr (by decide) rfl (qa_cons (qe_var (i := 0) rfl (by first | exact .inl rfl | exact .inr (.inl rfl) | exact .inr (.inr rfl))) (qa_cons qe_int qa_nil))) (qa_cons qe_int (qa_cons (qe_callK K c__law_ticket hr (by decide) rfl (qa_cons (qe_var (i := 0) rfl (by first | exact .inl rfl | exact .inr (.inl rfl) | exact .inr (.inr rfl))) (qa_cons (qe_var (i := 6) rfl (by first | exact .inl rfl | exact .inr (.inl rfl) | exact .inr (.inr rfl))) qa_nil))) qa_nil)))))
      (qss_cons (qs_set (i := 8) nd rfl (by first | exact .inl rfl | exact .inr rfl) (qe_callK K c__law_ticket hr (by decide) rfl (qa_cons (qe_var (i := 0) rfl (by first | exact .inl rfl | exact .inr (.inl rfl) | exact .inr (.inr rfl))) (qa_cons (qe_var (i := 6) rfl (by first | exact .inl rfl | exact .inr (.inl rfl) | exact .inr (.inr rfl))) qa_nil))))
      (qss_cut (qs_for PassesOwn.never rfl (qi_rng1 rfl B.f_range (qa_cons (qe_plusK K (qe_callBK K ac_len call_len rfl B.f_len PySem.boot_len (qa_cons (qe_var (i := 4) rfl (by first | exact .inl rfl | exact .inr (.inl rfl) | exact .inr (.inr rfl))) qa_nil)) qe_int) qa_nil)) (qg_name (i := 9) nd rfl (by first | exact .inl rfl | exact .inr rfl)) (qss_cons (qs_set (i := 10) nd rfl (by first | exact .inl rfl | exact .inr rfl) (qe_plusK K (qe_ixK K (qe_var (i := 2) rfl (by first | exact .inl rfl | exact .inr (.inl rfl) | exact .inr (.inr rfl))) qe_int) (qe_sliceK K (qe_var (i := 4) rfl (by first | exact .inl rfl | exact .inr (.inl rfl) | exact .inr (.inr rfl))) qo_none (qo_some (qe_var (i := 9) rfl (by first | exact .inl rfl | exact .inr (.inl rfl) | exact .inr (.inr rfl)))))))
      (qss_cons (qs_set (i := 11) nd rfl (by first | exact .inl rfl | exact .inr rfl) (qe_callK K c__law_fallen hr (by decide) rfl (qa_cons (qe_var (i := 2) rfl (by first | exact .inl rfl | exact .inr (.inl rfl) | exact .inr (.inr rfl))) (qa_cons (qe_var (i := 3) rfl (by first | exact .inl rfl | exact .inr (.inl rfl) | exact .inr (.inr rfl))) (qa_cons (qe_var (i := 9) rfl (by first | exact .inl rfl | exact .inr (.inl rfl) | exact .inr (.inr rfl))) qa_nil)))))
      (qss_cons (qs_if (qt_not (qt_val (qe_callK K c__law_is_read hr (by decide) rfl (qa_cons (qe_var (i := 1) rfl (by first | exact .inl rfl | exact .inr (.inl rfl) | exact .inr (.inr rfl))) (qa_cons (qe_var (i := 10) rfl (by first | exact .inl rfl | exact .inr (.inl rfl) | exact .inr (.inr rfl))) (qa_cons (qe_var (i := 11) rfl (by first | exact .inl rfl | exact .inr (.inl rfl) | exact .inr (.inr rfl))) qa_nil)))))) (qss_one (qs_ret qe_bl)) qss_nil)
      (qss_cons (qs_set (i := 12) nd rfl (by first | exact .inl rfl | exact .inr rfl) (qe_cmK (n := 6) (a := 0) (b := 0) (ks := ["first"]) d_Guard_resumed hr (by decide) (qe_glob (v := .ref C_Guard) (p := .ref C_Guard) rfl g_Guard rfl (fun _ => rfl)) (qa_cons (qe_ixK K (qe_var (i := 1) rfl (by first | exact .inl rfl | exact .inr (.inl rfl) | exact .inr (.inr rfl))) qe_int) (qa_cons (qe_ixK K (qe_var (i := 1) rfl (by first | exact .inl rfl | exact .inr (.inl rfl) | exact .inr (.inr rfl))) qe_int) (qa_cons (qe_ixK K (qe_var (i := 1) rfl (by first | exact .inl rfl | exact .inr (.inl rfl) | exact .inr (.inr rfl))) qe_int) (qa_cons (qe_ixK K (qe_var (i := 1) rfl (by first | exact .inl rfl | exact .inr (.inl rfl) | exact .inr (.inr rfl))) qe_int) (qa_cons (qe_var (i := 10) rfl (by first | exact .inl rfl | exact .inr (.inl rfl) | exact .inr (.inr rfl))) qa_nil))))) (qk_cons (qe_var (i := 8) rfl (by first | exact .inl rfl | exact .inr (.inl rfl) | exact .inr (.inr rfl))) qk_nil) (fun F => kb_d F 6 ["first"] 0 0 (by simp) (fun T _ _ _ _ _ _ us its ws h1 h2 h3 => match us, h1, its, h2, ws, h3 with | [_, _, _, _, _, _], _, [_], _, [_], _ => ⟨_, rfl, rfl⟩))))
      (qss_cons (qs_if (qt_not (qt_val (qe_callK K c__law_shows hr (by decide) rfl (qa_cons (qe_var (i := 12) rfl (by first | exact .inl rfl | exact .inr (.inl rfl) | exact .inr (.inr rfl))) (qa_cons (qe_var (i := 11) rfl (by first | exact .inl rfl | exact .inr (.inl rfl) | exact .inr (.inr rfl))) qa_nil))))) (qss_one (qs_ret qe_bl)) qss_nil)
      (qss_one (qs_if (qt_cmp op_in_seq ar_inI (qe_var (i := 9) rfl (by first | exact .inl rfl | exact .inr (.inl rfl) | exact .inr (.inr rfl))) (qe_tup (qa_cons qe_int (qa_cons (qe_sub (qe_var (i := 5) rfl (by first | exact .inl rfl | exact .inr (.inl rfl) | exact .inr (.inr rfl))) qe_int) (qa_cons (qe_var (i := 5) rfl (by first | exact .inl rfl | exact .inr (.inl rfl) | exact .inr (.inr rfl))) (qa_cons (qe_sub (qe_callBK K ac_len call_len rfl B.f_len PySem.boot_len (qa_cons (qe_var (i := 4) rfl (by first | exact .inl rfl | exact .inr (.inl rfl) | exact .inr (.inr rfl))) qa_nil)) qe_int) (qa_cons (qe_callBK K ac_len call_len rfl B.f_len PySem.boot_len (qa_cons (qe_var (i := 4) rfl (by first | exact .inl rfl | exact .inr (.inl rfl) | exact .inr (.inr rfl))) qa_nil)) qa_nil)))))) (by rfl)) (qss_cons (qs_set (i := 13) nd rfl (by first | exact .inl rfl | exact .inr rfl) (qe_callK K c__law_call hr (by decide) rfl (qa_cons (qe_var (i := 1) rfl (by first | exact .inl rfl | exact .inr (.inl rfl) | exact .inr (.inr rfl))) (qa_cons (qe_var (i := 11) rfl (by first | exact .inl rfl | exact .inr (.inl rfl) | exact .inr (.inr rfl))) (qa_cons (qe_var (i := 7) rfl (by first | exact .inl rfl | exact .inr (.inl rfl) | exact .inr (.inr rfl))) qa_nil)))))
      (qss_one (qs_if (QW.t (qw_or (qt_not (qt_val (qe_callK K c__law_is_told hr (by decide) rfl (qa_cons (qe_callK K c__law_asked hr (by decide) rfl (qa_cons (qe_var (i := 12) rfl (by first | exact .inl rfl | exact .inr (.inl rfl) | exact .inr (.inr rfl))) (qa_cons (qe_var (i := 7) rfl (by first | exact .inl rfl | exact .inr (.inl rfl) | exact .inr (.inr rfl))) (qa_cons qe_int qa_nil)))) (qa_cons (qe_var (i := 13) rfl (by first | exact .inl rfl | exact .inr (.inl rfl) | exact .inr (.inr rfl))) qa_nil))))) (qw_or1 (qt_not (qt_val (qe_callK K c__law_shows hr (by decide) rfl (qa_cons (qe_var (i := 12) rfl (by first | exact .inl rfl | exact .inr (.inl rfl) | exact .inr (.inr rfl))) (qa_cons (qe_ixK K (qe_var (i := 13) rfl (by first | exact .inl rfl | exact .inr (.inl rfl) | exact .inr (.inr rfl))) qe_int) qa_nil)))))))) (qss_one (qs_ret qe_bl)) qss_nil))) qss_nil))))))))
      (qss_one (qs_ret qe_bl)))))))), fun vs M Q h => ?_⟩
  obtain ⟨D, ns, d, dk, kk, k, r, j, x, n, m, rfl, hd, hdk, ok, hkk, hns, hst, hj, hk, hc, kQ⟩ := h
  have ho := out_ok ok hj (by omega) hc
  have eJ := outJ_lines D r j x n m
  have hl := ho.ln
  have hl2 := hl
  rw [eJ, List.length_append] at hl2
  walk_at "s"
  refine i4 (i4 (len_T (by omega) (slFrom (by omega) ?_)))
  rw [eJ, List.drop_left]
  refine find_S (cat_i ?_)
  rw [size_lines]
  have hll := hkk.ll
  have hs0 : 0 < D.h.lots.sum := sum_pos hll.1 fun n h => (hkk.lo n h).1
  have hs1 := sum_lt (ns := D.h.lots) (b := 2 ^ 200) (k := 10) (by omega) fun n h => (hkk.lo n h).2
  have hs2 : (10 : Nat) * 2 ^ 200 < 2 ^ 300 := by decide
  have hsz : sizeOf D r x ≤ (linesOf D r x n m).length := size_le D r x n m
  refine ix_l hdk (by decide) rfl (i3 ?_)
  refine ⟨D.h.lots.map fun n : Nat => (n : Int), map_I _, ?_⟩
  rw [sum_I]
  refine dr hd (by decide) (by decide) (fun x' hx' => ⟨d, _, rfl, hd, ⟨by omega, by omega⟩, fun m' hm' => ⟨d, _, rfl, hd, ⟨by omega, by omega⟩, fun t ht => ?_⟩⟩)
  refine ⟨fun ρ M' => Le M M', len_T (by omega) (cat_i ⟨⟨by omega, by omega⟩, for_rng (fun c ρ M' => Le M M' ∧ ∃ u1 u2 u3 u4 u5, ρ = [some (.ref d), some (.ref dk), some (lawP5 r j), some (lawP5 (outR D r x n m) (j ++ linesOf D r x n m)), some (T (linesOf D r x n m)), some (.int (sizeOf D r x : Nat)), some (.int (D.h.lots.sum : Nat)), some (.tup [.int (x' : Nat), .int 0, .int (m' : Nat)]), some (.int (t : Nat)), u1, u2, u3, u4, u5]) ⟨Le.refl, _, _, _, _, _, rfl⟩ (fun c ρ M1 hc1 ⟨l1, u1, u2, u3, u4, u5, eρ⟩ => ?_) (fun ρ M' h => h.1)⟩), fun ρ M' h => ⟨M, h, kQ⟩⟩
  subst eρ
  have hd1 := l1 _ _ hd
  have hdk1 := l1 _ _ hdk
  have hc2 : c ≤ (linesOf D r x n m).length := by omega
  obtain ⟨f1, f2, f3⟩ := fall_ok ok hj (by omega) hc hc2
  have ft : ((linesOf D r x n m).take c).length ≤ (linesOf D r x n m).length := by rw [List.length_take]; omega
  have f4 : (j ++ (linesOf D r x n m).take c).length < 2 ^ 19 := by rw [List.length_append]; omega
  walk_at "s"
  rw [show (0 : Int) + c = (c : Int) by omega]
  refine i4 (slTo (by omega) (cat_T (by omega) ⟨D, r, j, x, n, m, c, by rw [eJ], by omega, ?_⟩))
  refine ⟨D, ns, dk, _, _, _, rfl, f1, hdk1, ok, by omega, by omega, ?_⟩
  refine ⟨fun _ => ⟨rfl, ix_l hdk1 (by decide) rfl (ix_l hdk1 (by decide) rfl (ix_l hdk1 (by decide) rfl (ix_l hdk1 (by decide) rfl ?_)))⟩, fun h => (by cases h)⟩
  refine ⟨rfl, rfl, D, kk, ns, _, t, rfl, ok, hkk, hns, hst, by omega, by omega, by omega, fun g M2 hg => ?_⟩
  unfold jOf at hg
  rw [f1] at hg
  change GuNew C_Guard C_Sitting M1 M2 g D (fallR D r x n m c) (fallJ D r j x n m c) at hg
  refine ⟨g, D, _, _, k + 2, rfl, hg.at, f3.ok, by omega, f3.g, f3.pl, ?_⟩
  have hdk2 := hg.1 _ _ hdk1
  have hcc : CallOk D (fallR D r x n m c) x' 0 m' := call0 ok f3.ok (by omega)
  refine ⟨fun _ => len_T (by omega) (len_T (by omega) ?_), fun h => (by cases h)⟩
  refine ⟨[0, _, _, _, _], rfl, fun _ => ?_, fun _ => ⟨l1.trans hg.1, _, _, _, _, _, rfl⟩⟩
  refine ⟨D, ns, dk, _, _, k + 2, x', 0, m', rfl, hdk2, ok, f3, by omega, hcc, ?_⟩
  refine ⟨g, D, _, _, k + 2, x', 3, 0, m', rfl, hg.at, ok, f3, by omega, hcc, fun M3 lu hg3 => ?_⟩
  refine ⟨D, _, k + 2, x', 0, _, rfl, ok, f3.ok, f3.nb, fun _ => i2 ?_, fun h => (by cases h)⟩
  have o3 := out_ok ok f3 (by omega) hcc
  exact ⟨g, D, _, _, _, rfl, hg3, o3.ok, by omega, o3.g, o3.pl, fun _ => ⟨l1.trans (hg.le_u lu), _, _, _, _, _, rfl⟩, fun h => (by cases h)⟩
end
end CR

set_option Elab.async false
set_option linter.all false
set_option maxRecDepth 100000
set_option maxHeartbeats 4000000
set_option exponentiation.threshold 300000
namespace CR
open PySem PySem.Spec L2
local macro_rules | `(tactic| walk_at "s") => `(tactic| dsimp only [fRet, fSeq, fCut, fAsg, fDrop, fIfS, fNext, fBreak, fCont, fVar, fC, fOp, fCall, fCons, fNil, fCB, fBMS, fBML, fTup, fLst, fTest, fNot, fAnd, fOr, fAndV, fOrV, fNotV, fIf, fNeg, fChain, fGName, fGTup, fGCons, fGNil, fAugI, fSl, fPart, fNoPart, fRevL, fLstRg, fRepl, fFld, fSFld, fMeth, fProp, fPropSet, fMake, fMakeV, fCMeth, fGSub, fAugSub, fISeq, fIStr, fIRng1, fIRng2, fFor, fWhile, fLc, fYes, fIsi, fOf, fSeqX, fIfX, fRaise, fSetMX, fTry, fFldX, fIsX, fCMK, fMD, nth, lawS, startP, setS, clrS, wipeS, fnEnds, pI0, pI])
local macro_rules | `(tactic| walk_at "d") => `(tactic| try dsimp only)
section
variable {P : Program} {w : World} {K : PySem.W.Frag} {mg : Str → Option Value} {base : Heap}
open SX
/-! ### what a talk costs -/
theorem le_cut {x y u v : Int} (hv : 0 < v) (h : x * v ≤ u * y) : x * (v / (Int.gcd u v : Int)) ≤ u / (Int.gcd u v : Int) * y := by
  have g0 := gcd_pos (n := u) hv
  obtain ⟨a, ha⟩ := Int.gcd_dvd_left u v
  obtain ⟨b, hb⟩ := Int.gcd_dvd_right u v
  generalize (Int.gcd u v : Int) = g at g0 ha hb
  subst ha hb
  rw [Int.mul_ediv_cancel_left _ (by omega), Int.mul_ediv_cancel_left _ (by omega)]
  refine Int.le_of_mul_le_mul_left ?_ g0
  have e1 : g * (x * b) = x * (g * b) := by rw [← Int.mul_assoc, Int.mul_comm g x, Int.mul_assoc]
  have e2 : g * (a * y) = g * a * y := by rw [Int.mul_assoc]
  rw [e1, e2]
  exact h
theorem le_cut2 {x y u v : Int} (hy : 0 < y) (h : x * v ≤ u * y) : x / (Int.gcd x y : Int) * v ≤ u * (y / (Int.gcd x y : Int)) := by
  have g0 := gcd_pos (n := x) hy
  obtain ⟨a, ha⟩ := Int.gcd_dvd_left x y
  obtain ⟨b, hb⟩ := Int.gcd_dvd_right x y
  generalize (Int.gcd x y : Int) = g at g0 ha hb
  subst ha hb
  rw [Int.mul_ediv_cancel_left _ (by omega), Int.mul_ediv_cancel_left _ (by omega)]
  refine Int.le_of_mul_le_mul_left ?_ g0
  have e1 : g * (a * v) = g * a * v := by rw [Int.mul_assoc]
  have e2 : g * (u * b) = u * (g * b) := by rw [← Int.mul_assoc, Int.mul_comm g u, Int.mul_assoc]
  rw [e1, e2]
  exact h
/-- one step more: mode, product -/
def stp (D : Dk) (s : Nat × Int × Int) (g : Nat × Nat) : Nat × Int × Int :=
  (((gsOf D s.1 g.1).getD g.2 (0, 0)).1, (pay ((csOf D s.1).getD g.1 (1, 1)) s.2.1 s.2.2).1, (pay ((csOf D s.1).getD g.1 (1, 1)) s.2.1 s.2.2).2)
def run (D : Dk) (t : List (Nat × Nat)) : Nat × Int × Int := t.foldl (stp D) (0, 1, 1)
theorem run_snoc (D : Dk) (t : List (Nat × Nat)) (g : Nat × Nat) : run D (t ++ [g]) = stp D (run D t) g := by
  unfold run
  rw [List.foldl_append]
  rfl
def Vd (D : Dk) (t : List (Nat × Nat)) : Prop := ∀ i g, t[i]? = some g → g.1 < (qsOf D (run D (t.take i)).1).length ∧ g.2 < (gsOf D (run D (t.take i)).1 g.1).length
theorem Vd.snoc {D : Dk} {t : List (Nat × Nat)} {g : Nat × Nat} (h : Vd D t) (h1 : g.1 < (qsOf D (run D t).1).length) (h2 : g.2 < (gsOf D (run D t).1 g.1).length) : Vd D (t ++ [g]) := fun i q hq => by
  by_cases hi : i < t.length
  · rw [List.getElem?_append_left hi] at hq
    rw [List.take_append_of_le_length (by omega)]
    exact h i q hq
  · have hl := (List.getElem?_eq_some_iff.mp hq).1
    rw [List.length_append] at hl
    have hl' : i < t.length + 1 := hl
    have e : i = t.length := by omega
    subst e
    rw [List.getElem?_append_right (Nat.le_refl _), Nat.sub_self] at hq
    cases hq
    rw [List.take_left]
    exact ⟨h1, h2⟩
structure PaidOk (D : Dk) (r : Rd) : Prop where
  v : Vd D r.talk
  m : (run D r.talk).1 = r.mode
  p : 0 < (run D r.talk).2.1 ∧ 0 < (run D r.talk).2.2
  l : (run D r.talk).2.1 * r.d ≤ r.n * (run D r.talk).2.2
  b : r.n * D.bd ≤ D.bn * r.d
section
variable {D : Dk} (ok : D.Ok)
include ok
theorem paid0 (n : Nat) : PaidOk D (rd0 n) := ⟨fun i g h => (by cases h), rfl, ⟨by show (0 : Int) < 1; decide, by show (0 : Int) < 1; decide⟩, by show (1 : Int) * 1 ≤ 1 * 1; decide, by show 1 * D.bd ≤ D.bn * 1; have := ok.g; omega⟩
theorem price_ge {m x : Nat} (h : m < D.h.modes.length) (hx : x < (qsOf D m).length) : ((csOf D m).getD x (1, 1)).2 ≤ ((csOf D m).getD x (1, 1)).1 ∧ 0 < ((csOf D m).getD x (1, 1)).1 ∧ 0 < ((csOf D m).getD x (1, 1)).2 := by
  obtain ⟨c, c1, c2, c3⟩ := Dk.cost ok h hx
  obtain ⟨e1, e2, e3⟩ := Dk.mode ok h
  rw [c2]
  exact ⟨ok.r.ge _ (List.mem_of_getElem? e2) _ (List.mem_of_getElem? c1), c3.1.1, c3.2.1⟩
theorem paid_ask {k : Nat} {r : Rd} {x : Nat} (h : PaidOk D r) (hr : r.Ok D k) (ht : outOf D r x = .told) : PaidOk D (askR D r x) := by
  obtain ⟨⟨_, hx⟩, hb⟩ := told_iff.mp ht
  rw [Int.toNat_natCast] at hb
  obtain ⟨c1, c2, c3⟩ := price_ge ok hr.mode (x := x) (by omega)
  refine ⟨h.v, h.m, h.p, ?_, by show (payOf D r x).1 * D.bd ≤ D.bn * (payOf D r x).2; omega⟩
  show (run D r.talk).2.1 * (payOf D r x).2 ≤ (payOf D r x).1 * (run D r.talk).2.2
  unfold payOf pay
  refine le_cut (Int.mul_pos hr.bt.2.1 c3) ?_
  have hl := h.l
  have h1 : (run D r.talk).2.1 * r.d * ((csOf D r.mode).getD x (1, 1)).2 ≤ r.n * (run D r.talk).2.2 * ((csOf D r.mode).getD x (1, 1)).1 := Int.mul_le_mul hl c1 (Int.le_of_lt c3) (Int.mul_nonneg (Int.le_of_lt hr.pos) (Int.le_of_lt h.p.2))
  have e1 : (run D r.talk).2.1 * (r.d * ((csOf D r.mode).getD x (1, 1)).2) = (run D r.talk).2.1 * r.d * ((csOf D r.mode).getD x (1, 1)).2 := (Int.mul_assoc ..).symm
  have e2 : r.n * ((csOf D r.mode).getD x (1, 1)).1 * (run D r.talk).2.2 = r.n * (run D r.talk).2.2 * ((csOf D r.mode).getD x (1, 1)).1 := by rw [Int.mul_assoc, Int.mul_comm (((csOf D r.mode).getD x (1, 1)).1), Int.mul_assoc]
  rw [e1, e2]
  exact h1
theorem paid_say {k : Nat} {r : Rd} {x n m : Nat} (h : PaidOk D r) (hr : r.Ok D k) (ht : outOf D r x = .told) (hc : CallOk D r x n m) : PaidOk D (sayR D r x n m) := by
  obtain ⟨⟨_, hx⟩, hb⟩ := told_iff.mp ht
  have hx' : x < (qsOf D r.mode).length := by omega
  rw [Int.toNat_natCast] at hb
  obtain ⟨c1, c2, c3⟩ := price_ge ok hr.mode hx'
  obtain ⟨a1, a2, a3, a4, a5⟩ := ans_lt ok hr hx' hc
  have hp := h.p
  have e : run D (sayR D r x n m).talk = stp D (run D r.talk) (x, ansN D r x n) := run_snoc ..
  have em := h.m
  have hpos : 0 < (run D r.talk).2.2 * ((csOf D r.mode).getD x (1, 1)).2 := Int.mul_pos hp.2 c3
  have hdv := nfr_div (n := (run D r.talk).2.1 * ((csOf D r.mode).getD x (1, 1)).1) hpos
  refine ⟨h.v.snoc (by rw [em]; exact hx') (by rw [em]; exact a1), ?_, ?_, ?_, by show (payOf D r x).1 * D.bd ≤ D.bn * (payOf D r x).2; omega⟩
  · rw [e]
    unfold stp
    rw [em]
    rfl
  · rw [e]
    unfold stp pay
    rw [em]
    exact ⟨hdv.2.2 (Int.mul_pos hp.1 c2), hdv.1.1⟩
  · rw [e]
    unfold stp
    rw [em]
    show (pay _ _ _).1 * (payOf D r x).2 ≤ (payOf D r x).1 * (pay _ _ _).2
    unfold payOf pay
    refine le_cut2 hpos (le_cut (Int.mul_pos hr.bt.2.1 c3) ?_)
    have hl := h.l
    generalize (csOf D r.mode).getD x (1, 1) = c at c2 c3
    have h1 := Int.mul_le_mul_of_nonneg_right hl (Int.le_of_lt (Int.mul_pos c2 c3))
    have e1 : (run D r.talk).2.1 * c.1 * (r.d * c.2) = (run D r.talk).2.1 * r.d * (c.1 * c.2) := by
      rw [Int.mul_assoc, Int.mul_assoc, Int.mul_left_comm c.1 r.d]
    have e2 : r.n * c.1 * ((run D r.talk).2.2 * c.2) = r.n * (run D r.talk).2.2 * (c.1 * c.2) := by
      rw [Int.mul_assoc, Int.mul_assoc, Int.mul_left_comm c.1 (run D r.talk).2.2]
    rw [e1, e2]
    exact h1
theorem paid_out {k : Nat} {r : Rd} {x : Int} {n m : Nat} (h : PaidOk D r) (hr : r.Ok D k) (hc : CallOk D r x n m) : PaidOk D (outR D r x n m) := by
  unfold outR
  cases ho : outOf D r x with
  | told =>
    obtain ⟨⟨h0, _⟩, _⟩ := told_iff.mp ho
    obtain ⟨xn, rfl⟩ := Int.eq_ofNat_of_zero_le h0
    exact paid_say ok h hr ho hc
  | bad => exact h
  | left => exact h
theorem paid_fall {k : Nat} {r : Rd} {x : Int} {n m c : Nat} (h : PaidOk D r) (hr : r.Ok D k) (hc : CallOk D r x n m) : PaidOk D (fallR D r x n m c) := by
  unfold fallR
  cases ho : outOf D r x with
  | told =>
    obtain ⟨⟨h0, _⟩, _⟩ := told_iff.mp ho
    obtain ⟨xn, rfl⟩ := Int.eq_ofNat_of_zero_le h0
    dsimp only
    split
    · exact h
    · split
      · exact paid_ask ok h hr ho
      · exact paid_say ok h hr ho hc
  | bad => exact h
  | left => exact h
end
def ToP (t : Nat × Nat × Nat) : CR.P := .tup [I t.1, .tup [I t.2.1, I t.2.2]]
def sp_paid (CG CS : Addr) : PSp := fun ps M Q => ∃ (D : Dk) (ns : List Nat) (dk g tl : Addr) (k : Nat) (r : Rd) (j : List Nat) (ts : List (Nat × Nat × Nat)), ps = [.ref dk, .ref g, .ref tl] ∧ M dk = some (.lst (deskL D ns)) ∧ GuAt CG CS M g D r j ∧ M tl = some (.lst (ts.map ToP)) ∧ (∀ t ∈ ts, r.talk[t.1]? = some t.2) ∧ D.Ok ∧ r.Ok D k ∧ k ≤ 90 ∧ PaidOk D r ∧ Q (.bl true) M
theorem sp_paid_len (CG CS : Addr) : ∀ vs M Q, sp_paid CG CS vs M Q → vs.length = 3 := fun vs M Q ⟨a, b, c, d, e, f, g, h, i, e', _⟩ => by rw [e']; rfl
abbrev s__law_is_paid : Stmt := top 158
theorem sc__law_is_paid : FnScope ["desk", "guard", "told", "said", "at", "step", "product", "mode"] ["desk", "guard", "told"] (defScope s__law_is_paid) := ⟨rfl, rfl, rfl, by decide +kernel, rfl, by decide +kernel, by decide +kernel⟩
theorem c__law_is_paid {C_Guard : Addr} {C_Sitting : Addr} (F : Std K mg "_law_is_paid" s__law_is_paid) (B : BFree mg) (p_Guard_spent : PropCal P w K mg base 1 C_Guard "spent" (toSp K (sp_gspent C_Guard C_Sitting))) (p_Guard_talk : PropCal P w K mg base 3 C_Guard "talk" (toSp K (sp_gtalk C_Guard C_Sitting))) (c__law_less : C8.Cal P w K mg base 1 "_law_less" (toSp K sp_less) []) (c__law_times : C8.Cal P w K mg base 3 "_law_times" (toSp K sp_times) []) : C8.Cal P w K mg base 5 "_law_is_paid" (toSp K (sp_paid C_Guard C_Sitting)) [] := by
  refine F.cal sc__law_is_paid (sp_paid_len C_Guard C_Sitting) (fun _ _ _ _ _ _ us hl => match us, hl with | [_, _, _], _ => rfl) (fun f cdv A outer s H E hr => ?_)
  have nd := sc__law_is_paid.nd
  refine ⟨_, _, (qss_cons (qs_set (i := 3) nd rfl (by first | exact .inl rfl | exact .inr rfl) (qe_prop p_Guard_talk hr (by decide) (qe_var (i := 1) rfl (by first | exact .inl rfl | exact .inr (.inl rfl) | exact .inr (.inr rfl)))))
      (qss_cut (qs_for PassesOwn.never rfl (qi_seqK K (qe_var (i := 2) rfl (by first | exact .inl rfl | exact .inr (.inl rfl) | exact .inr (.inr rfl)))) (qg_tup rfl (qgs_cons (qg_name (i := 4) nd rfl (by first | exact .inl rfl | exact .inr rfl)) (qgs_cons (qg_name (i := 5) nd rfl (by first | exact .inl rfl | exact .inr rfl)) qgs_nil))) (qss_one (qs_if (QW.t (qw_or (qt_ge (qe_var (i := 4) rfl (by first | exact .inl rfl | exact .inr (.inl rfl) | exact .inr (.inr rfl))) (qe_callBK K ac_len call_len rfl B.f_len PySem.boot_len (qa_cons (qe_var (i := 3) rfl (by first | exact .inl rfl | exact .inr (.inl rfl) | exact .inr (.inr rfl))) qa_nil))) (qw_or1 (qt_neK K hr.units (qe_ixK K (qe_var (i := 3) rfl (by first | exact .inl rfl | exact .inr (.inl rfl) | exact .inr (.inr rfl))) (qe_var (i := 4) rfl (by first | exact .inl rfl | exact .inr (.inl rfl) | exact .inr (.inr rfl)))) (qe_var (i := 5) rfl (by first | exact .inl rfl | exact .inr (.inl rfl) | exact .inr (.inr rfl))) (nomark _))))) (qss_one (qs_ret qe_bl)) qss_nil)))
      (qss_cons (qs_set (i := 6) nd rfl (by first | exact .inl rfl | exact .inr rfl) (qe_tup (qa_cons qe_int (qa_cons qe_int qa_nil))))
      (qss_cons (qs_set (i := 7) nd rfl (by first | exact .inl rfl | exact .inr rfl) qe_int)
      (qss_cut (qs_for PassesOwn.never rfl (qi_seqK K (qe_var (i := 3) rfl (by first | exact .inl rfl | exact .inr (.inl rfl) | exact .inr (.inr rfl)))) (qg_name (i := 5) nd rfl (by first | exact .inl rfl | exact .inr rfl)) (qss_cons (qs_set (i := 6) nd rfl (by first | exact .inl rfl | exact .inr rfl) (qe_callK K c__law_times hr (by decide) rfl (qa_cons (qe_var (i := 6) rfl (by first | exact .inl rfl | exact .inr (.inl rfl) | exact .inr (.inr rfl))) (qa_cons (qe_ixK K (qe_ixK K (qe_ixK K (qe_var (i := 0) rfl (by first | exact .inl rfl | exact .inr (.inl rfl) | exact .inr (.inr rfl))) qe_int) (qe_var (i := 7) rfl (by first | exact .inl rfl | exact .inr (.inl rfl) | exact .inr (.inr rfl)))) (qe_ixK K (qe_var (i := 5) rfl (by first | exact .inl rfl | exact .inr (.inl rfl) | exact .inr (.inr rfl))) qe_int)) qa_nil))))
      (qss_one (qs_set (i := 7) nd rfl (by first | exact .inl rfl | exact .inr rfl) (qe_ixK K (qe_ixK K (qe_ixK K (qe_ixK K (qe_ixK K (qe_ixK K (qe_ixK K (qe_var (i := 0) rfl (by first | exact .inl rfl | exact .inr (.inl rfl) | exact .inr (.inr rfl))) qe_int) qe_int) (qe_var (i := 7) rfl (by first | exact .inl rfl | exact .inr (.inl rfl) | exact .inr (.inr rfl)))) (qe_ixK K (qe_var (i := 5) rfl (by first | exact .inl rfl | exact .inr (.inl rfl) | exact .inr (.inr rfl))) qe_int)) qe_int) (qe_ixK K (qe_var (i := 5) rfl (by first | exact .inl rfl | exact .inr (.inl rfl) | exact .inr (.inr rfl))) qe_int)) qe_int)))))
      (qss_one (qs_ret (qe_and (qe_not (qe_callK K c__law_less hr (by decide) rfl (qa_cons (qe_prop p_Guard_spent hr (by decide) (qe_var (i := 1) rfl (by first | exact .inl rfl | exact .inr (.inl rfl) | exact .inr (.inr rfl)))) (qa_cons (qe_var (i := 6) rfl (by first | exact .inl rfl | exact .inr (.inl rfl) | exact .inr (.inr rfl))) qa_nil)))) (qe_one (qe_not (qe_callK K c__law_less hr (by decide) rfl (qa_cons (qe_ixK K (qe_var (i := 0) rfl (by first | exact .inl rfl | exact .inr (.inl rfl) | exact .inr (.inr rfl))) qe_int) (qa_cons (qe_prop p_Guard_spent hr (by decide) (qe_var (i := 1) rfl (by first | exact .inl rfl | exact .inr (.inl rfl) | exact .inr (.inr rfl)))) qa_nil))))))))))))), fun vs M Q h => ?_⟩
  obtain ⟨D, ns, dk, g, tl, k, r, j, ts, rfl, hdk, hg, htl, hts, ok, hr, hk, hp, kQ⟩ := h
  obtain ⟨dx, st, hm, hs⟩ := id hg
  walk_at "s"
  refine ⟨dx, _, hm, g, D, r, j, rfl, hg, ?_⟩
  refine ⟨fun ρ M' => M' = M ∧ ∃ u v, ρ = [some (.ref dk), some (.ref g), some (.ref tl), some (Gs r.talk), u, v, none, none], ?_, ?_⟩
  · rw [htl]
    refine for_lst (fun k ρ M' => M' = M ∧ ∃ u v, ρ = [some (.ref dk), some (.ref g), some (.ref tl), some (Gs r.talk), u, v, none, none]) ⟨rfl, none, none, rfl⟩ (fun k ρ M' ⟨e, _⟩ => by rw [e]; exact htl) (fun k x ρ M' ex hx ⟨eM, u, v, eρ⟩ => ?_) (fun ρ M' h => h)
    subst eM eρ
    obtain ⟨t, ht, rfl⟩ := List.mem_map.mp hx
    have h1 := hts t ht
    have h2 := (List.getElem?_eq_some_iff.mp h1).1
    walk_at "s"
    refine ⟨rfl, len_t ?_⟩
    rw [List.length_map]
    refine ⟨fun h => absurd (of_decide_eq_true h) (by omega), fun _ => ixm h1 ?_⟩
    refine ne_self (ps := [I t.2.1, I t.2.2]) (k := 1) (okd_tup fun p hp => ?_) (by decide) ⟨fun h => (by cases h), fun _ => ⟨rfl, _, _, rfl⟩⟩
    simp only [List.mem_cons, List.not_mem_nil, or_false] at hp
    rcases hp with rfl | rfl <;> exact okd_int
  · rintro ρ M' ⟨rfl, u, v, rfl⟩
    walk_at "s"
    obtain ⟨⟨kk, hkk⟩, _⟩ := id ok.h
    have htk := hr.tk
    refine ⟨fun ρ M2 => M2 = M' ∧ ∃ w, Bt (140 * (r.talk.length + 1)) (3 * (r.talk.length + 1)) (run D r.talk).2.1 (run D r.talk).2.2 ∧ ρ = [some (.ref dk), some (.ref g), some (.ref tl), some (Gs r.talk), u, w, some (fr (run D r.talk).2.1 (run D r.talk).2.2), some (I (run D r.talk).1)],
      for_seq (fun i ρ M2 => M2 = M' ∧ ∃ w, (run D (r.talk.take i)).1 < D.h.modes.length ∧ Bt (140 * (i + 1)) (3 * (i + 1)) (run D (r.talk.take i)).2.1 (run D (r.talk.take i)).2.2 ∧ 0 < (run D (r.talk.take i)).2.1 ∧ ρ = [some (.ref dk), some (.ref g), some (.ref tl), some (Gs r.talk), u, w, some (fr (run D (r.talk.take i)).2.1 (run D (r.talk.take i)).2.2), some (I (run D (r.talk.take i)).1)])
        ⟨rfl, _, hkk.ml.1, by show Bt 140 3 1 1; unfold Bt; decide, by show (0 : Int) < 1; decide, rfl⟩ (fun i x ρ M2 ex hx ⟨eM, w, h1, h2, h3, eρ⟩ => ?_) (fun ρ M2 ⟨eM, w, h1, h2, h3, eρ⟩ => ?_), ?_⟩
    · subst eM eρ
      rw [List.getElem?_map] at ex
      cases eg : r.talk[i]? with
      | none => rw [eg] at ex; cases ex
      | some q =>
      rw [eg] at ex
      cases ex
      have hi := (List.getElem?_eq_some_iff.mp eg).1
      obtain ⟨v1, v2⟩ := hp.v i q eg
      have et := run_snoc D (r.talk.take i) q
      rw [← take_snoc eg] at et
      obtain ⟨em, er, el⟩ := Dk.mode ok h1
      obtain ⟨c, c1, c2, c3⟩ := Dk.cost ok h1 v1
      obtain ⟨qu, q1, q2, q3⟩ := Dk.quest ok h1 v1
      have v2' := v2
      rw [q2] at v2'
      obtain ⟨go, g1, g2⟩ := mem_get (xs := qu.goes) (i := q.2) v2'
      have hgo := q3.2.1 go g2
      have e5 : stp D (run D (r.talk.take i)) q = (go.1, (pay c (run D (r.talk.take i)).2.1 (run D (r.talk.take i)).2.2).1, (pay c (run D (r.talk.take i)).2.1 (run D (r.talk.take i)).2.2).2) := by
        unfold stp
        rw [c2, q2, List.getD_eq_getElem?_getD, g1]
        rfl
      obtain ⟨b1, b2⟩ := pay_ok ok h2 h3 c3
      rw [et, e5]
      walk_at "s"
      refine ix_l hdk (by decide) rfl (ixm er (i0 (ixm c1 ⟨_, _, c.1, c.2, rfl, h2.frb (by omega) (by omega), c3.frb, ?_⟩)))
      refine ix_l hdk (by decide) rfl (i4 (ixm em (i0 (ixm q1 (i2 (i1 (ixm g1 (i0 ?_))))))))
      exact ⟨rfl, _, hgo.1, b1, b2, rfl⟩
    · rw [List.length_map, List.take_length] at h2 eρ
      exact ⟨eM, w, h2, eρ⟩
    · rintro ρ M2 ⟨rfl, w, hb, rfl⟩
      walk_at "s"
      have hl := hp.l
      have hb2 := hp.b
      refine ⟨dx, _, hm, g, D, r, j, rfl, hg, r.n, r.d, _, _, rfl, hr.bt.frb (by omega) (by omega), hb.frb (by omega) (by omega), ?_⟩
      rw [decide_eq_false (by omega)]
      refine ⟨fun _ => ix_l hdk (by decide) rfl ⟨dx, _, hm, g, D, r, j, rfl, hg, D.bn, D.bd, r.n, r.d, rfl, ok.b.frb, hr.bt.frb (by omega) (by omega), M2, Le.refl, ?_⟩, fun h => (by cases h)⟩
      rw [decide_eq_false (by omega)]
      exact kQ
end
end CR

set_option Elab.async false
set_option linter.all false
set_option maxRecDepth 100000
set_option maxHeartbeats 4000000
set_option exponentiation.threshold 300000
namespace CR
open PySem PySem.Spec L2
local macro_rules | `(tactic| walk_at "s") => `(tactic| dsimp only [fRet, fSeq, fCut, fAsg, fDrop, fIfS, fNext, fBreak, fCont, fVar, fC, fOp, fCall, fCons, fNil, fCB, fBMS, fBML, fTup, fLst, fTest, fNot, fAnd, fOr, fAndV, fOrV, fNotV, fIf, fNeg, fChain, fGName, fGTup, fGCons, fGNil, fAugI, fSl, fPart, fNoPart, fRevL, fLstRg, fRepl, fFld, fSFld, fMeth, fProp, fPropSet, fMake, fMakeV, fCMeth, fGSub, fAugSub, fISeq, fIStr, fIRng1, fIRng2, fFor, fWhile, fLc, fYes, fIsi, fOf, fSeqX, fIfX, fRaise, fSetMX, fTry, fFldX, fIsX, fCMK, fMD, nth, lawS, startP, setS, clrS, wipeS, fnEnds, pI0, pI])
local macro_rules | `(tactic| walk_at "d") => `(tactic| try dsimp only)
section
variable {P : Program} {w : World} {K : PySem.W.Frag} {mg : Str → Option Value} {base : Heap}
open SX
theorem split_rest {A B X E : Prop} (hE : E) (h : E → A → X) : (A → X) ∧ (B → E) := ⟨h hE, fun _ => hE⟩
theorem out_word (D : Dk) (r : Rd) (x : Int) : (decide (outW D r x = "told") = true → outOf D r x = .told) ∧ (decide (outW D r x = "told") = false → outOf D r x ≠ .told) := by
  unfold outW
  cases outOf D r x with
  | told => exact ⟨fun _ => rfl, fun h => absurd h (by decide)⟩
  | bad => exact ⟨fun h => absurd h (by decide), fun _ => fun h => (by cases h)⟩
  | left => exact ⟨fun h => absurd h (by decide), fun _ => fun h => (by cases h)⟩
theorem talk_out {D : Dk} {r : Rd} {x : Int} {n m i : Nat} {g : Nat × Nat} (h : r.talk[i]? = some g) : (outR D r x n m).talk[i]? = some g := by
  unfold outR
  cases outOf D r x with
  | told =>
    show (r.talk ++ [_])[i]? = _
    rw [List.getElem?_append_left (List.getElem?_eq_some_iff.mp h).1]
    exact h
  | bad => exact h
  | left => exact h
theorem talk_fall {D : Dk} {r : Rd} {x : Int} {n m c i : Nat} {g : Nat × Nat} (h : r.talk[i]? = some g) : (fallR D r x n m c).talk[i]? = some g := by
  unfold fallR
  cases outOf D r x with
  | told =>
    dsimp only
    split
    · exact h
    · split
      · exact h
      · show (r.talk ++ [_])[i]? = _
        rw [List.getElem?_append_left (List.getElem?_eq_some_iff.mp h).1]
        exact h
  | bad => exact h
  | left => exact h
theorem GuAt.lex {CG CS : Addr} {M M' : Mp} {g a : Addr} {D : Dk} {r : Rd} {j : List Nat} {xs : List CR.P} (h : GuAt CG CS M g D r j) (ha : M a = some (.lst xs)) (l : LeX a M M') : GuAt CG CS M' g D r j := by
  obtain ⟨dx, st, hm, dy, hs⟩ := h
  exact ⟨dx, st, l _ _ (fun e => by rw [e, ha] at hm; cases hm) hm, dy, l _ _ (fun e => by rw [e, ha] at hs; cases hs) hs⟩
abbrev s__law_begin : Stmt := top 110
theorem sc__law_begin : FnScope ["script", "cell"] ["script"] (defScope s__law_begin) := ⟨rfl, rfl, rfl, by decide +kernel, rfl, by decide +kernel, by decide +kernel⟩
theorem c__law_begin (F : Std K mg "_law_begin" s__law_begin) (B : BFree mg) : C8.Cal P w K mg base 1 "_law_begin" (spBeg K) [] := by
  refine beg_ok F sc__law_begin (by decide) (fun _ _ _ _ _ _ us hl => match us, hl with | [_], _ => rfl) (fun f cdv A outer s H E => ?_)
  have nd := sc__law_begin.nd
  exact pss_one (ps_ret (pe_lst (pa_cons (pe_lc (own := [("cell", 1)]) rfl nd (pi_any (pe_var (i := 0) rfl (by first | exact .inl rfl | exact .inr (.inl rfl) | exact .inr (.inr rfl)))) (blkOk_by (by kernel_rfl)) (fun _ _ _ _ _ => pg_name (i := 1) nd rfl (Or.inl rfl)) (fun _ _ _ _ _ => pts_nil) (fun _ _ _ _ _ => pe_callTy cr_int rfl B.f_int (by decide +kernel) (pa_cons (pe_var (i := 1) rfl (by first | exact .inl rfl | exact .inr (.inl rfl) | exact .inr (.inr rfl))) pa_nil))) (pa_cons pe_int (pa_cons pe_int (pa_cons pe_int pa_nil))))))

abbrev s_law : Stmt := top 159
theorem sc_law : FnScope ["script", "d", "house", "rates", "rows", "desk", "ticket", "held_v", "guard", "waits", "told", "k", "call", "due", "left"] ["script"] (defScope s_law) := ⟨rfl, rfl, rfl, by decide +kernel, rfl, by decide +kernel, by decide +kernel⟩
theorem k_law {C_BadQuestion : Addr} {C_Guard : Addr} {C_Refused : Addr} {C_Sitting : Addr} {fl : Addr} {fdl : FuncData} (F : FunD K "law" "law" (defArgs s_law) (defBody s_law) (defScope s_law) [] [] fl fdl) (B : BFree mg) (p_Guard_journal : PropCal P w K mg base 1 C_Guard "journal" (toSp K (sp_gjournal C_Guard C_Sitting))) (k_Guard : C8.Mak P w K mg base 5 "Guard" C_Guard (toSp K (sp_ginit C_Guard C_Sitting)) []) (c__law_begin : C8.Cal P w K mg base 1 "_law_begin" (spBeg K) []) (c__law_asked : C8.Cal P w K mg base 5 "_law_asked" (toSp K (sp_askedl K C_Guard C_Sitting C_BadQuestion C_Refused)) []) (c__law_begins_anew : C8.Cal P w K mg base 8 "_law_begins_anew" (toSp K (sp_anew C_Guard C_Sitting)) []) (c__law_begun : C8.Cal P w K mg base 2 "_law_begun" (toSp K sp_begun) []) (c__law_budget : C8.Cal P w K mg base 4 "_law_budget" (toSp K sp_budget) []) (c__law_call : C8.Cal P w K mg base 4 "_law_call" (toSp K sp_call) []) (c__law_call_drawn : C8.Cal P w K mg base 3 "_law_call_drawn" (toSp K sp_cdrawn) []) (c__law_draw : C8.Cal P w K mg base 1 "_law_draw" (toSp K sp_draw) []) (c__law_falls : C8.Cal P w K mg base 8 "_law_falls" (toSp K (sp_falls C_Guard C_Sitting)) []) (c__law_falls_everywhere : C8.Cal P w K mg base 8 "_law_falls_everywhere" (toSp K (sp_falle K C_Guard C_Sitting C_BadQuestion C_Refused)) []) (c__law_is_paid : C8.Cal P w K mg base 5 "_law_is_paid" (toSp K (sp_paid C_Guard C_Sitting)) []) (c__law_is_read : C8.Cal P w K mg base 7 "_law_is_read" (toSp K sp_isread) []) (c__law_is_told : C8.Cal P w K mg base 3 "_law_is_told" (toSp K sp_istold) []) (c__law_rates : C8.Cal P w K mg base 4 "_law_rates" (toSp K sp_rates) []) (c__law_shows : C8.Cal P w K mg base 5 "_law_shows" (toSp K (sp_shows C_Guard C_Sitting)) []) (c__law_some_house : C8.Cal P w K mg base 7 "_law_some_house" (toSp K sp_anyhouse) []) (c__law_state : C8.Cal P w K mg base 1 "_law_state" (toSp K sp_state) []) (c__law_table : C8.Cal P w K mg base 2 "_law_table" (toSp K sp_table) []) (c__law_ticket : C8.Cal P w K mg base 2 "_law_ticket" (toSp K sp_ticket) []) : FnOk P w K mg base CX0 9 fl fdl ["script"] (spLaw K) := by
  refine law_ok F sc_law (by decide) rfl (fun f cdv A outer s H E hr => ps_set (i := 1) sc_law.nd rfl (.inl rfl) (C8.pe_c c__law_begin hr (by decide) rfl (pa_cons (pe_var (i := 0) rfl (by first | exact .inl rfl | exact .inr (.inl rfl) | exact .inr (.inr rfl))) pa_nil))) (fun f cdv A outer s H E hr => ?_)
  have nd := sc_law.nd
  refine ⟨_, _, (qss_cons (qs_set (i := 2) nd rfl (by first | exact .inl rfl | exact .inr rfl) (qe_callK K c__law_some_house hr (by decide) rfl (qa_cons (qe_var (i := 1) rfl (by first | exact .inl rfl | exact .inr (.inl rfl) | exact .inr (.inr rfl))) qa_nil)))
      (qss_cons (qs_set (i := 3) nd rfl (by first | exact .inl rfl | exact .inr rfl) (qe_callK K c__law_rates hr (by decide) rfl (qa_cons (qe_var (i := 1) rfl (by first | exact .inl rfl | exact .inr (.inl rfl) | exact .inr (.inr rfl))) (qa_cons (qe_var (i := 2) rfl (by first | exact .inl rfl | exact .inr (.inl rfl) | exact .inr (.inr rfl))) qa_nil))))
      (qss_cons (qs_set (i := 4) nd rfl (by first | exact .inl rfl | exact .inr rfl) (qe_callK K c__law_table hr (by decide) rfl (qa_cons (qe_var (i := 1) rfl (by first | exact .inl rfl | exact .inr (.inl rfl) | exact .inr (.inr rfl))) (qa_cons (qe_callBK K ac_len call_len rfl B.f_len PySem.boot_len (qa_cons (qe_ixK K (qe_ixK K (qe_ixK K (qe_var (i := 2) rfl (by first | exact .inl rfl | exact .inr (.inl rfl) | exact .inr (.inr rfl))) qe_int) qe_int) qe_int) qa_nil)) (qa_cons qe_int qa_nil)))))
      (qss_cons (qs_set (i := 5) nd rfl (by first | exact .inl rfl | exact .inr rfl) (qe_lst (qa_cons (qe_var (i := 2) rfl (by first | exact .inl rfl | exact .inr (.inl rfl) | exact .inr (.inr rfl))) (qa_cons (qe_var (i := 4) rfl (by first | exact .inl rfl | exact .inr (.inl rfl) | exact .inr (.inr rfl))) (qa_cons (qe_var (i := 3) rfl (by first | exact .inl rfl | exact .inr (.inl rfl) | exact .inr (.inr rfl))) (qa_cons (qe_callK K c__law_budget hr (by decide) rfl (qa_cons (qe_var (i := 1) rfl (by first | exact .inl rfl | exact .inr (.inl rfl) | exact .inr (.inr rfl))) (qa_cons (qe_var (i := 3) rfl (by first | exact .inl rfl | exact .inr (.inl rfl) | exact .inr (.inr rfl))) qa_nil))) (qa_cons (qe_callK K c__law_state hr (by decide) rfl (qa_cons (qe_ixK K (qe_var (i := 2) rfl (by first | exact .inl rfl | exact .inr (.inl rfl) | exact .inr (.inr rfl))) qe_int) (qa_cons (qe_var (i := 4) rfl (by first | exact .inl rfl | exact .inr (.inl rfl) | exact .inr (.inr rfl))) qa_nil))) qa_nil)))))))
      (qss_cons (qs_set (i := 6) nd rfl (by first | exact .inl rfl | exact .inr rfl) (qe_callK K c__law_ticket hr (by decide) rfl (qa_cons (qe_var (i := 1) rfl (by first | exact .inl rfl | exact .inr (.inl rfl) | exact .inr (.inr rfl))) (qa_cons (qe_callBK K ac_sum (cr_sumA rfl) rfl B.f_sum (by decide +kernel) (qa_cons (qe_ixK K (qe_var (i := 2) rfl (by first | exact .inl rfl | exact .inr (.inl rfl) | exact .inr (.inr rfl))) qe_int) qa_nil)) qa_nil))))
      (qss_cons (qs_set (i := 7) nd rfl (by first | exact .inl rfl | exact .inr rfl) (qe_callK K c__law_begun hr (by decide) rfl (qa_cons (qe_var (i := 2) rfl (by first | exact .inl rfl | exact .inr (.inl rfl) | exact .inr (.inr rfl))) (qa_cons (qe_var (i := 6) rfl (by first | exact .inl rfl | exact .inr (.inl rfl) | exact .inr (.inr rfl))) qa_nil))))
      (qss_cons (qs_if (QW.t (qw_and (qt_eqK K hr.units (qe_callK K c__law_draw hr (by decide) rfl (qa_cons (qe_var (i := 1) rfl (by first | exact .inl rfl | exact .inr (.inl rfl) | exact .inr (.inr rfl))) (qa_cons qe_int qa_nil))) qe_int (nomark _)) (qw_and1 (qt_not (qt_val (qe_callK K c__law_begins_anew hr (by decide) rfl (qa_cons (qe_var (i := 5) rfl (by first | exact .inl rfl | exact .inr (.inl rfl) | exact .inr (.inr rfl))) (qa_cons (qe_ixK K (qe_var (i := 7) rfl (by first | exact .inl rfl | exact .inr (.inl rfl) | exact .inr (.inr rfl))) qe_int) (qa_cons (qe_callK K c__law_ticket hr (by decide) rfl (qa_cons (qe_var (i := 1) rfl (by first | exact .inl rfl | exact .inr (.inl rfl) | exact .inr (.inr rfl))) (qa_cons (qe_callBK K ac_sum (cr_sumA rfl) rfl B.f_sum (by decide +kernel) (qa_cons (qe_ixK K (qe_var (i := 2) rfl (by first | exact .inl rfl | exact .inr (.inl rfl) | exact .inr (.inr rfl))) qe_int) qa_nil)) qa_nil))) qa_nil))))))))) (qss_one (qs_ret qe_bl)) qss_nil)
      (qss_cons (qs_set (i := 8) nd rfl (by first | exact .inl rfl | exact .inr rfl) (qe_mk k_Guard hr (by decide) rfl (qa_cons (qe_var (i := 2) rfl (by first | exact .inl rfl | exact .inr (.inl rfl) | exact .inr (.inr rfl))) (qa_cons (qe_var (i := 4) rfl (by first | exact .inl rfl | exact .inr (.inl rfl) | exact .inr (.inr rfl))) (qa_cons (qe_var (i := 3) rfl (by first | exact .inl rfl | exact .inr (.inl rfl) | exact .inr (.inr rfl))) (qa_cons (qe_ixK K (qe_var (i := 5) rfl (by first | exact .inl rfl | exact .inr (.inl rfl) | exact .inr (.inr rfl))) qe_int) (qa_cons (qe_var (i := 6) rfl (by first | exact .inl rfl | exact .inr (.inl rfl) | exact .inr (.inr rfl))) qa_nil)))))))
      (qss_cons (qs_set (i := 9) nd rfl (by first | exact .inl rfl | exact .inr rfl) (qe_callK K c__law_draw hr (by decide) rfl (qa_cons (qe_var (i := 1) rfl (by first | exact .inl rfl | exact .inr (.inl rfl) | exact .inr (.inr rfl))) (qa_cons qe_int qa_nil))))
      (qss_cons (qs_set (i := 10) nd rfl (by first | exact .inl rfl | exact .inr rfl) (qe_lst qa_nil))
      (qss_cut (qs_for PassesOwn.never rfl (qi_rng1 rfl B.f_range (qa_cons (qe_plusK K qe_int (qe_callK K c__law_draw hr (by decide) rfl (qa_cons (qe_var (i := 1) rfl (by first | exact .inl rfl | exact .inr (.inl rfl) | exact .inr (.inr rfl))) (qa_cons qe_int qa_nil)))) qa_nil)) (qg_name (i := 11) nd rfl (by first | exact .inl rfl | exact .inr rfl)) (qss_cons (qs_set (i := 12) nd rfl (by first | exact .inl rfl | exact .inr rfl) (qe_callK K c__law_call_drawn hr (by decide) rfl (qa_cons (qe_var (i := 1) rfl (by first | exact .inl rfl | exact .inr (.inl rfl) | exact .inr (.inr rfl))) (qa_cons (qe_var (i := 2) rfl (by first | exact .inl rfl | exact .inr (.inl rfl) | exact .inr (.inr rfl))) (qa_cons (qe_ixK K (qe_var (i := 5) rfl (by first | exact .inl rfl | exact .inr (.inl rfl) | exact .inr (.inr rfl))) qe_int) (qa_cons (qe_ixK K (qe_var (i := 7) rfl (by first | exact .inl rfl | exact .inr (.inl rfl) | exact .inr (.inr rfl))) qe_int) qa_nil))))))
      (qss_cons (qs_set (i := 13) nd rfl (by first | exact .inl rfl | exact .inr rfl) (qe_callK K c__law_call hr (by decide) rfl (qa_cons (qe_var (i := 5) rfl (by first | exact .inl rfl | exact .inr (.inl rfl) | exact .inr (.inr rfl))) (qa_cons (qe_var (i := 7) rfl (by first | exact .inl rfl | exact .inr (.inl rfl) | exact .inr (.inr rfl))) (qa_cons (qe_var (i := 12) rfl (by first | exact .inl rfl | exact .inr (.inl rfl) | exact .inr (.inr rfl))) qa_nil)))))
      (qss_cut (qs_if (qt_eqK K hr.units (qe_ixK K (qe_var (i := 13) rfl (by first | exact .inl rfl | exact .inr (.inl rfl) | exact .inr (.inr rfl))) qe_int) qe_str (nomark _)) (qss_cons (qs_augSub (i := 9) nd rfl (by first | exact .inl rfl | exact .inr rfl) qe_int)
      (qss_one (qs_if (QW.t (qw_and (qt_eqK K hr.units (qe_var (i := 9) rfl (by first | exact .inl rfl | exact .inr (.inl rfl) | exact .inr (.inr rfl))) (qe_neg qe_int) (nomark _)) (qw_and1 (qt_not (qt_val (qe_callK K c__law_falls_everywhere hr (by decide) rfl (qa_cons (qe_var (i := 1) rfl (by first | exact .inl rfl | exact .inr (.inl rfl) | exact .inr (.inr rfl))) (qa_cons (qe_var (i := 5) rfl (by first | exact .inl rfl | exact .inr (.inl rfl) | exact .inr (.inr rfl))) (qa_cons (qe_var (i := 7) rfl (by first | exact .inl rfl | exact .inr (.inl rfl) | exact .inr (.inr rfl))) (qa_cons (qe_ixK K (qe_var (i := 13) rfl (by first | exact .inl rfl | exact .inr (.inl rfl) | exact .inr (.inr rfl))) qe_int) qa_nil)))))))))) (qss_one (qs_ret qe_bl)) qss_nil))) qss_nil)
      (qss_cons (qs_if (QW.t (qw_or (qt_not (qt_val (qe_callK K c__law_is_told hr (by decide) rfl (qa_cons (qe_callK K c__law_asked hr (by decide) rfl (qa_cons (qe_var (i := 8) rfl (by first | exact .inl rfl | exact .inr (.inl rfl) | exact .inr (.inr rfl))) (qa_cons (qe_var (i := 12) rfl (by first | exact .inl rfl | exact .inr (.inl rfl) | exact .inr (.inr rfl))) (qa_cons (qe_callK K c__law_draw hr (by decide) rfl (qa_cons (qe_var (i := 1) rfl (by first | exact .inl rfl | exact .inr (.inl rfl) | exact .inr (.inr rfl))) (qa_cons qe_int qa_nil))) qa_nil)))) (qa_cons (qe_var (i := 13) rfl (by first | exact .inl rfl | exact .inr (.inl rfl) | exact .inr (.inr rfl))) qa_nil))))) (qw_or1 (qt_not (qt_val (qe_callK K c__law_shows hr (by decide) rfl (qa_cons (qe_var (i := 8) rfl (by first | exact .inl rfl | exact .inr (.inl rfl) | exact .inr (.inr rfl))) (qa_cons (qe_ixK K (qe_var (i := 13) rfl (by first | exact .inl rfl | exact .inr (.inl rfl) | exact .inr (.inr rfl))) qe_int) qa_nil)))))))) (qss_one (qs_ret qe_bl)) qss_nil)
      (qss_one (qs_if (qt_lt (qe_callK K c__law_draw hr (by decide) rfl (qa_cons (qe_var (i := 1) rfl (by first | exact .inl rfl | exact .inr (.inl rfl) | exact .inr (.inr rfl))) (qa_cons qe_int qa_nil))) qe_int) (qss_cut (qs_if (qt_eqK K hr.units (qe_ixK K (qe_var (i := 13) rfl (by first | exact .inl rfl | exact .inr (.inl rfl) | exact .inr (.inr rfl))) qe_int) qe_str (nomark _)) (qss_one (qs_expr (qe_bmLK K PySem.F.plainAttrs_list PySem.F.slot_list_append PySem.F.type_list_append am_append mt_append (qe_var (i := 10) rfl (by first | exact .inl rfl | exact .inr (.inl rfl) | exact .inr (.inr rfl))) (qa_cons (qe_tup (qa_cons (qe_callBK K ac_len call_len rfl B.f_len PySem.boot_len (qa_cons (qe_ixK K (qe_var (i := 7) rfl (by first | exact .inl rfl | exact .inr (.inl rfl) | exact .inr (.inr rfl))) qe_int) qa_nil)) (qa_cons (qe_tup (qa_cons (qe_ixK K (qe_var (i := 12) rfl (by first | exact .inl rfl | exact .inr (.inl rfl) | exact .inr (.inr rfl))) qe_int) (qa_cons (qe_ixK K (qe_var (i := 13) rfl (by first | exact .inl rfl | exact .inr (.inl rfl) | exact .inr (.inr rfl))) qe_int) qa_nil))) qa_nil))) qa_nil)))) qss_nil)
      (qss_one (qs_set (i := 7) nd rfl (by first | exact .inl rfl | exact .inr rfl) (qe_ixK K (qe_var (i := 13) rfl (by first | exact .inl rfl | exact .inr (.inl rfl) | exact .inr (.inr rfl))) qe_int)))) (qss_cons (qs_set (i := 14) nd rfl (by first | exact .inl rfl | exact .inr rfl) (qe_callK K c__law_falls hr (by decide) rfl (qa_cons (qe_var (i := 1) rfl (by first | exact .inl rfl | exact .inr (.inl rfl) | exact .inr (.inr rfl))) (qa_cons (qe_var (i := 5) rfl (by first | exact .inl rfl | exact .inr (.inl rfl) | exact .inr (.inr rfl))) (qa_cons (qe_var (i := 7) rfl (by first | exact .inl rfl | exact .inr (.inl rfl) | exact .inr (.inr rfl))) (qa_cons (qe_ixK K (qe_var (i := 13) rfl (by first | exact .inl rfl | exact .inr (.inl rfl) | exact .inr (.inr rfl))) qe_int) qa_nil))))))
      (qss_cons (qs_if (qt_isN (qe_var (i := 14) rfl (by first | exact .inl rfl | exact .inr (.inl rfl) | exact .inr (.inr rfl))) qe_non) (qss_one (qs_ret qe_bl)) qss_nil)
      (qss_cons (qs_set (i := 8) nd rfl (by first | exact .inl rfl | exact .inr rfl) (qe_ixK K (qe_var (i := 14) rfl (by first | exact .inl rfl | exact .inr (.inl rfl) | exact .inr (.inr rfl))) qe_int))
      (qss_one (qs_set (i := 7) nd rfl (by first | exact .inl rfl | exact .inr rfl) (qe_ixK K (qe_var (i := 14) rfl (by first | exact .inl rfl | exact .inr (.inl rfl) | exact .inr (.inr rfl))) qe_int)))))))))))))
      (qss_one (qs_ret (qe_and (qe_callK K c__law_is_read hr (by decide) rfl (qa_cons (qe_var (i := 5) rfl (by first | exact .inl rfl | exact .inr (.inl rfl) | exact .inr (.inr rfl))) (qa_cons (qe_prop p_Guard_journal hr (by decide) (qe_var (i := 8) rfl (by first | exact .inl rfl | exact .inr (.inl rfl) | exact .inr (.inr rfl)))) (qa_cons (qe_var (i := 7) rfl (by first | exact .inl rfl | exact .inr (.inl rfl) | exact .inr (.inr rfl))) qa_nil)))) (qe_one (qe_callK K c__law_is_paid hr (by decide) rfl (qa_cons (qe_var (i := 5) rfl (by first | exact .inl rfl | exact .inr (.inl rfl) | exact .inr (.inr rfl))) (qa_cons (qe_var (i := 8) rfl (by first | exact .inl rfl | exact .inr (.inl rfl) | exact .inr (.inr rfl))) (qa_cons (qe_var (i := 10) rfl (by first | exact .inl rfl | exact .inr (.inl rfl) | exact .inr (.inr rfl))) qa_nil))))))))))))))))))), fun d M hd => ?_⟩
  walk_at "s"
  refine ⟨d, rfl, hd, fun h hk2 => ?_⟩
  obtain ⟨⟨k, hk⟩, _⟩ := id hk2
  refine ⟨d, h, rfl, hd, ⟨by have := hk.ml; omega, fun m hm => by have := (hk.mo m hm).1; omega⟩, fun rates hr => ?_⟩
  obtain ⟨r0, er0, hr0⟩ := mem_get hk.rl.1
  have hrow := (hk.rd.2 r0 hr0).1
  refine i1 (i1 (ixm (k := 0) er0 (len_t ?_)))
  rw [List.length_map, hrow]
  refine ⟨d, k, 5, rfl, hd, ⟨by have := hk.k0; omega, by have := hk.k0; omega⟩, by decide, fun ns _ hns => ?_⟩
  have hrl := congrArg List.length hr.len
  rw [List.length_map, List.length_map] at hrl
  refine ⟨d, rates, rfl, hd, ⟨?_, fun r hr' => ?_⟩, fun cs hcs c hc => ⟨hr.ok cs hcs c hc, hr.ge cs hcs c hc⟩, fun n e hb hge => ?_⟩
  · have := hk.ml
    omega
  · obtain ⟨i, hi⟩ := List.mem_iff_getElem?.mp hr'
    have := congrArg (fun x => x[i]?) hr.len
    simp only [List.getElem?_map, hi, Option.map_some] at this
    cases hm : h.modes[i]? with
    | none => rw [hm] at this; cases this
    | some m =>
      rw [hm] at this
      have e1 : r.length = m.length := Option.some.inj this
      have := (hk.mo m (List.mem_of_getElem? hm)).1
      omega
  have hns' : ∀ n ∈ ns, n < k := fun n hn => by have := hns n hn; omega
  refine i1 ⟨h.rd, k, ns, rfl, hk.rd, hk.rl.1, hns', fun hsl => ?_⟩
  intro a M1 na l1 m1
  obtain ⟨D, eD⟩ : ∃ D : Dk, D = ⟨h, rates, n, e, stN h.rd 0 ns⟩ := ⟨_, rfl⟩
  have ok : D.Ok := by rw [eD]; exact ⟨hk2, hr, hb, hsl, hge⟩
  have hkD : D.h.Ok k := by rw [eD]; exact hk
  have hst : stN D.h.rd 0 ns = D.st := by rw [eD]
  have m1D : M1 a = some (.lst (deskL D ns)) := by rw [eD]; exact m1
  have eh : h.p = D.h.p := by rw [eD]
  have er : CR.P.tup (rates.map Prs) = .tup (D.rates.map Prs) := by rw [eD]
  have el : h.lots = D.h.lots := by rw [eD]
  rw [eh, er]
  have hd1 := l1 _ _ hd
  have hll := hkD.ll
  have hs0 : 0 < D.h.lots.sum := sum_pos hll.1 fun n h => (hkD.lo n h).1
  have hs1 := sum_lt (ns := D.h.lots) (b := 2 ^ 200) (k := 10) (by omega) fun n h => (hkD.lo n h).2
  have hs2 : (10 : Nat) * 2 ^ 200 < 2 ^ 300 := by decide
  refine i3 ⟨D.h.lots.map fun n : Nat => (n : Int), map_I _, ?_⟩
  rw [sum_I]
  refine ⟨d, _, rfl, hd1, ⟨by omega, by omega⟩, fun tk htk => ?_⟩
  have htk' : tk < D.h.lots.sum := by omega
  have hlt := numOf_lt _ _ htk'
  refine ⟨D.h, tk, rfl, hll.2, htk', dr hd1 (by decide) (by decide) (fun z hz => eq_i (split_rest ?_ fun rest _ => ?_))⟩
  rotate_left
  · refine i4 (i3 ⟨D.h.lots.map fun n : Nat => (n : Int), map_I _, ?_⟩)
    rw [sum_I]
    refine ⟨d, _, rfl, hd1, ⟨by omega, by omega⟩, fun t ht => ?_⟩
    have hl1 := (Jn.begin ok hlt).ln
    exact ⟨D, ns, a, k, _, t, rfl, m1D, ok, hkD, hns', hst, by omega, ln_lot _, by omega, fun _ => rest, fun h => (by cases h)⟩
  refine ix_l m1D (by decide) rfl (fun g0 dx0 M2 n2 l2 m2 => ?_)
  refine ⟨M1, g0, dx0, D, k, ns, tk, rfl, l2, n2, m2, hkD, hns', hst, htk', fun M3 hg0 => ⟨rfl, ?_⟩⟩
  have hd3 := hg0.1 _ _ hd1
  refine dr hd3 (by decide) (by decide) (fun w0 hw0 => ?_)
  intro tl M4 nt l4 m4
  have m4a := l4 _ _ (hg0.1 _ _ m1D)
  have htla : a ≠ tl := fun e => by rw [← e, hg0.1 _ _ m1D] at nt; cases nt
  refine ⟨fun ρ M' => ∃ (i : Nat) (r : Rd) (j : List Nat) (g : Addr) (ts : List (Nat × Nat × Nat)) (w : Int) (u1 u2 u3 u4 : Option CR.P), i ≤ 6 ∧ Jn D (2 * i) r j ∧ GuAt C_Guard C_Sitting M' g D r j ∧ M' tl = some (.lst (ts.map ToP)) ∧ (ts.length ≤ i ∧ ∀ t ∈ ts, r.talk[t.1]? = some t.2) ∧ PaidOk D r ∧ M' d = some .drw ∧ M' a = some (.lst (deskL D ns)) ∧
    ρ = [none, some (.ref d), some D.h.p, some (.tup (D.rates.map Prs)), some (It ns), some (.ref a), some (.int tk), some (lawP5 r j), some (.ref g), some (.int w), some (.ref tl), u1, u2, u3, u4], dr (l4 _ _ hd3) (by decide) (by decide) (fun z2 hz2 => cat_i ⟨⟨by omega, by omega⟩, ?_⟩), ?_⟩
  · refine for_rng (fun i ρ M' => ∃ (r : Rd) (j : List Nat) (g : Addr) (ts : List (Nat × Nat × Nat)) (w : Int) (u1 u2 u3 u4 : Option CR.P), Jn D (2 * i) r j ∧ GuAt C_Guard C_Sitting M' g D r j ∧ M' tl = some (.lst (ts.map ToP)) ∧ (ts.length ≤ i ∧ ∀ t ∈ ts, r.talk[t.1]? = some t.2) ∧ PaidOk D r ∧ M' d = some .drw ∧ M' a = some (.lst (deskL D ns)) ∧
      ρ = [none, some (.ref d), some D.h.p, some (.tup (D.rates.map Prs)), some (It ns), some (.ref a), some (.int tk), some (lawP5 r j), some (.ref g), some (.int w), some (.ref tl), u1, u2, u3, u4]) ⟨_, _, g0, [], _, _, _, _, _, Jn.begin ok hlt, hg0.at.le l4, m4, ⟨Nat.le_refl _, fun _ h => (by cases h)⟩, paid0 ok _, l4 _ _ hd3, m4a, rfl⟩ (fun i ρ M5 hi ⟨r, j, g, ts, w, u1, u2, u3, u4, hj, hg, htl, hts, hp, hd5, hdk5, eρ⟩ => ?_) (fun ρ M' ⟨r, j, g, ts, w, u1, u2, u3, u4, hj, hg, htl, hts, hp, hd5, hdk5, eρ⟩ => ⟨_, r, j, g, ts, w, u1, u2, u3, u4, by omega, hj, hg, htl, hts, hp, hd5, hdk5, eρ⟩)
    subst eρ
    have hi' : i ≤ 5 := by omega
    walk_at "s"
    refine ix_l hdk5 (by decide) rfl (i0 ⟨d, D, r, _, rfl, hd5, ok, hj.ok, fun x n m hc => ?_⟩)
    refine ⟨D, ns, a, r, j, 2 * i, x, n, m, rfl, hdk5, ok, hj, by omega, hc, ?_⟩
    refine ⟨fun ρ M' => M' = M5 ∧ ∃ w' : Int, ρ = [none, some (.ref d), some D.h.p, some (.tup (D.rates.map Prs)), some (It ns), some (.ref a), some (.int tk), some (lawP5 r j), some (.ref g), some (.int w'), some (.ref tl), some (.int (0 + (i : Int))), some (.tup [.int x, .int n, .int m]), some (dueP D r j x n m), u4], i0 (eq_s ⟨fun _ => eq_i ⟨fun _ => i2 ⟨D, ns, d, a, k, 2 * i, r, j, x, n, m, rfl, hd5, hdk5, ok, hkD, hns', hst, hj, by omega, hc, fun _ => ⟨rfl, _, rfl⟩, fun h => (by cases h)⟩, fun _ => ⟨rfl, _, rfl⟩⟩, fun _ => ⟨rfl, _, rfl⟩⟩), ?_⟩
    rintro ρ M6 ⟨rfl, w', rfl⟩
    walk_at "s"
    refine dr hd5 (by decide) (by decide) (fun st hst2 => ⟨g, D, r, j, 2 * i, x, st, n, m, rfl, hg, ok, hj, by omega, hc, fun M7 lu hg7 => ?_⟩)
    have ln := lu.n hg
    have hd7 := ln.drw hd5
    have hdk7 := ln.lst hdk5
    have htl7 := ln.lst htl
    refine ⟨D, r, 2 * i, x, n, _, rfl, ok, hj.ok, hj.nb, fun _ => i2 ?_, fun h => (by cases h)⟩
    have o := out_ok ok hj (by omega) hc
    have po := paid_out ok hp hj.ok hc
    refine ⟨g, D, _, _, _, rfl, hg7, o.ok, by omega, o.g, o.pl, fun _ => ?_, fun h => (by cases h)⟩
    refine dr hd7 (by decide) (by decide) (fun z5 hz5 => ⟨fun _ => ?_, fun _ => ?_⟩)
    · refine ⟨fun ρ M' => ∃ ts' : List (Nat × Nat × Nat), GuAt C_Guard C_Sitting M' g D (outR D r x n m) (outJ D r j x n m) ∧ M' tl = some (.lst (ts'.map ToP)) ∧ (ts'.length ≤ i + 1 ∧ ∀ t ∈ ts', (outR D r x n m).talk[t.1]? = some t.2) ∧ M' d = some .drw ∧ M' a = some (.lst (deskL D ns)) ∧ ρ = [none, some (.ref d), some D.h.p, some (.tup (D.rates.map Prs)), some (It ns), some (.ref a), some (.int tk), some (lawP5 r j), some (.ref g), some (.int w'), some (.ref tl), some (.int (0 + (i : Int))), some (.tup [.int x, .int n, .int m]), some (dueP D r j x n m), u4], i0 (eq_s ⟨fun h1 => ?_, fun h1 => ⟨ts, hg7, htl7, ⟨by omega, fun t ht => talk_out (hts.2 t ht)⟩, hd7, hdk7, rfl⟩⟩), ?_⟩
      · have ho := (out_word D r x).1 h1
        rw [htl7]
        obtain ⟨⟨h0, _⟩, _⟩ := told_iff.mp ho
        obtain ⟨xn, rfl⟩ := Int.eq_ofNat_of_zero_le h0
        have ev : outV D r xn n = I (ansN D r xn n) := by
          unfold outV
          rw [ho]
          rfl
        refine i2 (len_t ?_)
        rw [List.length_map]
        refine i0 (i1 ?_)
        rw [ev]
        refine app_ htl7 (sz _ (by rw [List.length_map]; omega)) (fun M8 lx m8 => ⟨ts ++ [(r.talk.length, xn, ansN D r xn n)], hg7.lex htl7 lx, by rw [List.map_append]; exact m8, ⟨by rw [List.length_append]; show _ + 1 ≤ _; omega, app_ok (fun t ht => talk_out (hts.2 t ht)) fun t ht => ?_⟩, lx _ _ (fun e => by rw [e, htl7] at hd7; cases hd7) hd7, lx _ _ htla hdk7, rfl⟩)
        rw [List.mem_singleton.mp ht]
        unfold outR
        rw [ho]
        show (r.talk ++ [(xn, ansN D r xn n)])[r.talk.length]? = _
        simp
      · rintro ρ M8 ⟨ts', hg8, htl8, hts8, hd8, hdk8, rfl⟩
        walk_at "s"
        exact i2 ⟨_, _, g, ts', w', _, _, _, _, o, hg8, htl8, hts8, po, hd8, hdk8, rfl⟩
    · refine i2 ⟨D, ns, d, a, k, 2 * i, r, j, x, n, m, rfl, hd7, hdk7, ok, hkD, hns', hst, hj, by omega, hc, fun r2 j2 g2 b M8 hc2 j2ok l8 nb m8 hg8 => ?_⟩
      obtain ⟨c, rfl⟩ := hc2
      exact ⟨fun h => (by cases h), fun _ => ix_l m8 (by decide) rfl (ix_l m8 (by decide) rfl ⟨_, _, g2, ts, w', _, _, _, _, j2ok, hg8, l8 _ _ htl7, ⟨by omega, fun t ht => talk_fall (hts.2 t ht)⟩, paid_fall ok hp hj.ok hc, l8 _ _ hd7, l8 _ _ hdk7, rfl⟩)⟩
  · rintro ρ M5 ⟨i, r, j, g, ts, w, u1, u2, u3, u4, hi, hj, hg, htl, hts, hp, hd5, hdk5, rfl⟩
    walk_at "s"
    have rd := hj.read0 ok
    have hl := hj.ln
    obtain ⟨dx, st, hm, hs⟩ := id hg
    refine ⟨dx, _, hm, g, D, r, j, rfl, hg, ?_⟩
    refine ⟨D, ns, a, j, r, j, rfl, rd.1, hdk5, ok, by omega, by omega, fun _ => ?_, fun h => (by cases h)⟩
    exact ⟨D, ns, a, g, tl, _, r, j, ts, rfl, hdk5, hg, htl, hts.2, ok, hj.ok, by omega, hp, rfl⟩

end
end CR

set_option Elab.async false
set_option linter.all false
set_option maxRecDepth 100000
set_option exponentiation.threshold 300000
namespace CR
open PySem PySem.Spec L2
set_option maxHeartbeats 4000000
theorem head_run (w : World) : HandSHeadRun.RunEqI R0 Vw (hookL chs) (obL chs) 20000 looseA w := run_parts (W := W0 w) rfl (e_la w) (e_lb w) (e_seen w) (List.forall_mem_cons.mpr ⟨e_c0 w, List.forall_mem_cons.mpr ⟨e_c1 w, List.forall_mem_cons.mpr ⟨e_c2 w, fun _ h => by cases h⟩⟩⟩)
theorem law_chain {P : Program} {w : World} {K : PySem.W.Frag} {mg : Str → Option Value} {base : Heap} {fd : FuncData} (X : K.In base) (G : base.Ns mainGlobals mg) (c : SaysL chs K) (hF : ((P.main.file : Str) == PySem.Challenge.pw_closedratios_k76_whole_journals_cut.main.file) = true) (hS : (P.main.scope.names.lookup ("super" : Str)).isSome = false) (FL : FunD K "law" "law" (defArgs (top 159)) (defBody (top 159)) (defScope (top 159)) [] [] (He.ga K "law") fd) : FnOk P w K mg base CX0 9 (He.ga K "law") fd ["script"] (spLaw K) := by
  have B : BFree mg := ⟨He.free_ok X G (c.fact 0 0 (f := .fa (.free "len")) rfl rfl), He.free_ok X G (c.fact 0 1 (f := .fa (.free "range")) rfl rfl), He.free_ok X G (c.fact 0 2 (f := .fa (.free "sum")) rfl rfl), He.free_ok X G (c.fact 0 3 (f := .fa (.free "tuple")) rfl rfl), He.free_ok X G (c.fact 0 4 (f := .fa (.free "list")) rfl rfl), He.free_ok X G (c.fact 0 5 (f := .fa (.free "max")) rfl rfl), He.free_ok X G (c.fact 0 6 (f := .fa (.free "min")) rfl rfl), He.free_ok X G (c.fact 0 7 (f := .fa (.free "abs")) rfl rfl), He.free_ok X G (c.fact 0 8 (f := .fa (.free "int")) rfl rfl), He.free_ok X G (c.fact 0 9 (f := .fa (.free "str")) rfl rfl), He.free_ok X G (c.fact 0 10 (f := .fa (.free "ord")) rfl rfl), He.free_ok X G (c.fact 0 11 (f := .fa (.free "all")) rfl rfl), He.free_ok X G (c.fact 0 12 (f := .fa (.free "isinstance")) rfl rfl), He.free_ok X G (c.fact 0 13 (f := .fa (.free "bool")) rfl rfl), blt_ok X G (c.fact 0 14 (f := .blt "gcd" "math.gcd") rfl rfl)⟩
  have hnd : base.NoDigits := nodig_ok X (c.fact 0 15 (f := .nodig) rfl rfl)
  have z_BadQuestion := DefX.err (P := P) (d := ⟨"BadQuestion", "question", "BadQuestion.__init__", meth 8 0, PySem.Challenge.pw_closedratios_k76_whole_journals_cut.main.file⟩) (c.defx 2 0 (d := ⟨"BadQuestion", "question", "BadQuestion.__init__", meth 8 0, PySem.Challenge.pw_closedratios_k76_whole_journals_cut.main.file⟩) rfl rfl).1 (c.defx 2 0 (d := ⟨"BadQuestion", "question", "BadQuestion.__init__", meth 8 0, PySem.Challenge.pw_closedratios_k76_whole_journals_cut.main.file⟩) rfl rfl).2 ({} : OX.FldOk "question") ⟨_, _, _, _, _, _, _, _, _, _, _, _, _, rfl, rfl, rfl, rfl⟩ hF hS
  have er_BadQuestion : Err1 P K mg "BadQuestion" (He.ga K "BadQuestion") "question" := ⟨He.glo_ok X G (c.fact 2 22 (f := .fa (.glo "BadQuestion")) rfl rfl), ⟨_, z_BadQuestion.1⟩, z_BadQuestion.2⟩
  have z_Refused := DefX.err (P := P) (d := ⟨"Refused", "left", "Refused.__init__", meth 9 0, PySem.Challenge.pw_closedratios_k76_whole_journals_cut.main.file⟩) (c.defx 2 1 (d := ⟨"Refused", "left", "Refused.__init__", meth 9 0, PySem.Challenge.pw_closedratios_k76_whole_journals_cut.main.file⟩) rfl rfl).1 (c.defx 2 1 (d := ⟨"Refused", "left", "Refused.__init__", meth 9 0, PySem.Challenge.pw_closedratios_k76_whole_journals_cut.main.file⟩) rfl rfl).2 ({} : OX.FldOk "left") ⟨_, _, _, _, _, _, _, _, _, _, _, _, _, rfl, rfl, rfl, rfl⟩ hF hS
  have er_Refused : Err1 P K mg "Refused" (He.ga K "Refused") "left" := ⟨He.glo_ok X G (c.fact 2 23 (f := .fa (.glo "Refused")) rfl rfl), ⟨_, z_Refused.1⟩, z_Refused.2⟩
  have S_c__law_draw : Std K mg "_law_draw" (top 111) := by
    obtain ⟨_, F⟩ := c.def_ 0 0 (d := ⟨.glo "_law_draw", "_law_draw", "_law_draw", top 111, []⟩) rfl rfl
    exact ⟨_, _, F, He.glo_ok X G (c.fact 0 16 (f := .fa (.glo "_law_draw")) rfl rfl)⟩
  have t_c__law_draw := c__law_draw (P := P) (w := w) (K := K) (mg := mg) (base := base) S_c__law_draw B 
  have S_c__law_pick : Std K mg "_law_pick" (top 112) := by
    obtain ⟨_, F⟩ := c.def_ 0 1 (d := ⟨.glo "_law_pick", "_law_pick", "_law_pick", top 112, []⟩) rfl rfl
    exact ⟨_, _, F, He.glo_ok X G (c.fact 0 17 (f := .fa (.glo "_law_pick")) rfl rfl)⟩
  have t_c__law_pick := c__law_pick (P := P) (w := w) (K := K) (mg := mg) (base := base) S_c__law_pick B (c__law_draw := t_c__law_draw)
  have S_c__law_is_int : Std K mg "_law_is_int" (top 113) := by
    obtain ⟨_, F⟩ := c.def_ 0 2 (d := ⟨.glo "_law_is_int", "_law_is_int", "_law_is_int", top 113, []⟩) rfl rfl
    exact ⟨_, _, F, He.glo_ok X G (c.fact 0 18 (f := .fa (.glo "_law_is_int")) rfl rfl)⟩
  have t_c__law_is_int := c__law_is_int (P := P) (w := w) (K := K) (mg := mg) (base := base) S_c__law_is_int B 
  have S_c__law_is_ints : Std K mg "_law_is_ints" (top 114) := by
    obtain ⟨_, F⟩ := c.def_ 0 3 (d := ⟨.glo "_law_is_ints", "_law_is_ints", "_law_is_ints", top 114, []⟩) rfl rfl
    exact ⟨_, _, F, He.glo_ok X G (c.fact 0 19 (f := .fa (.glo "_law_is_ints")) rfl rfl)⟩
  have t_c__law_is_ints := c__law_is_ints (P := P) (w := w) (K := K) (mg := mg) (base := base) S_c__law_is_ints B (c__law_is_int := t_c__law_is_int)
  have S_c__law_is_rows : Std K mg "_law_is_rows" (top 115) := by
    obtain ⟨_, F⟩ := c.def_ 0 4 (d := ⟨.glo "_law_is_rows", "_law_is_rows", "_law_is_rows", top 115, []⟩) rfl rfl
    exact ⟨_, _, F, He.glo_ok X G (c.fact 0 20 (f := .fa (.glo "_law_is_rows")) rfl rfl)⟩
  have t_c__law_is_rows := c__law_is_rows (P := P) (w := w) (K := K) (mg := mg) (base := base) S_c__law_is_rows B 
  have S_c__law_gcd : Std K mg "_law_gcd" (top 116) := by
    obtain ⟨_, F⟩ := c.def_ 0 5 (d := ⟨.glo "_law_gcd", "_law_gcd", "_law_gcd", top 116, []⟩) rfl rfl
    exact ⟨_, _, F, He.glo_ok X G (c.fact 0 21 (f := .fa (.glo "_law_gcd")) rfl rfl)⟩
  have t_c__law_gcd := c__law_gcd (P := P) (w := w) (K := K) (mg := mg) (base := base) S_c__law_gcd B 
  have S_c__law_f : Std K mg "_law_f" (top 117) := by
    obtain ⟨_, F⟩ := c.def_ 0 6 (d := ⟨.glo "_law_f", "_law_f", "_law_f", top 117, []⟩) rfl rfl
    exact ⟨_, _, F, He.glo_ok X G (c.fact 0 22 (f := .fa (.glo "_law_f")) rfl rfl)⟩
  have t_c__law_f := c__law_f (P := P) (w := w) (K := K) (mg := mg) (base := base) S_c__law_f B (c__law_gcd := t_c__law_gcd)
  have S_c_ratio : Std K mg "ratio" (top 13) := by
    obtain ⟨_, F⟩ := c.def_ 0 7 (d := ⟨.glo "ratio", "ratio", "ratio", top 13, []⟩) rfl rfl
    exact ⟨_, _, F, He.glo_ok X G (c.fact 0 23 (f := .fa (.glo "ratio")) rfl rfl)⟩
  have t_c_ratio := c_ratio (P := P) (w := w) (K := K) (mg := mg) (base := base) S_c_ratio B 
  have S_c__law_times : Std K mg "_law_times" (top 120) := by
    obtain ⟨_, F⟩ := c.def_ 0 8 (d := ⟨.glo "_law_times", "_law_times", "_law_times", top 120, []⟩) rfl rfl
    exact ⟨_, _, F, He.glo_ok X G (c.fact 0 24 (f := .fa (.glo "_law_times")) rfl rfl)⟩
  have t_c__law_times := c__law_times (P := P) (w := w) (K := K) (mg := mg) (base := base) S_c__law_times B (c__law_f := t_c__law_f)
  have S_c_times : Std K mg "times" (top 14) := by
    obtain ⟨_, F⟩ := c.def_ 0 9 (d := ⟨.glo "times", "times", "times", top 14, []⟩) rfl rfl
    exact ⟨_, _, F, He.glo_ok X G (c.fact 0 25 (f := .fa (.glo "times")) rfl rfl)⟩
  have t_c_times := c_times (P := P) (w := w) (K := K) (mg := mg) (base := base) S_c_times B (c_ratio := t_c_ratio)
  have S_c__law_plus : Std K mg "_law_plus" (top 118) := by
    obtain ⟨_, F⟩ := c.def_ 0 10 (d := ⟨.glo "_law_plus", "_law_plus", "_law_plus", top 118, []⟩) rfl rfl
    exact ⟨_, _, F, He.glo_ok X G (c.fact 0 26 (f := .fa (.glo "_law_plus")) rfl rfl)⟩
  have t_c__law_plus := c__law_plus (P := P) (w := w) (K := K) (mg := mg) (base := base) S_c__law_plus B (c__law_f := t_c__law_f)
  have S_c__law_minus : Std K mg "_law_minus" (top 119) := by
    obtain ⟨_, F⟩ := c.def_ 0 11 (d := ⟨.glo "_law_minus", "_law_minus", "_law_minus", top 119, []⟩) rfl rfl
    exact ⟨_, _, F, He.glo_ok X G (c.fact 0 27 (f := .fa (.glo "_law_minus")) rfl rfl)⟩
  have t_c__law_minus := c__law_minus (P := P) (w := w) (K := K) (mg := mg) (base := base) S_c__law_minus B (c__law_f := t_c__law_f)
  have S_c__law_less : Std K mg "_law_less" (top 122) := by
    obtain ⟨_, F⟩ := c.def_ 0 12 (d := ⟨.glo "_law_less", "_law_less", "_law_less", top 122, []⟩) rfl rfl
    exact ⟨_, _, F, He.glo_ok X G (c.fact 0 28 (f := .fa (.glo "_law_less")) rfl rfl)⟩
  have t_c__law_less := c__law_less (P := P) (w := w) (K := K) (mg := mg) (base := base) S_c__law_less B 
  have S_c_is_below : Std K mg "is_below" (top 16) := by
    obtain ⟨_, F⟩ := c.def_ 0 13 (d := ⟨.glo "is_below", "is_below", "is_below", top 16, []⟩) rfl rfl
    exact ⟨_, _, F, He.glo_ok X G (c.fact 0 29 (f := .fa (.glo "is_below")) rfl rfl)⟩
  have t_c_is_below := c_is_below (P := P) (w := w) (K := K) (mg := mg) (base := base) S_c_is_below B 
  have S_c__law_great : Std K mg "_law_great" (top 123) := by
    obtain ⟨_, F⟩ := c.def_ 0 14 (d := ⟨.glo "_law_great", "_law_great", "_law_great", top 123, []⟩) rfl rfl
    exact ⟨_, _, F, He.glo_ok X G (c.fact 0 30 (f := .fa (.glo "_law_great")) rfl rfl)⟩
  have t_c__law_great := c__law_great (P := P) (w := w) (K := K) (mg := mg) (base := base) S_c__law_great B (c__law_less := t_c__law_less)
  have S_c__law_is_frac : Std K mg "_law_is_frac" (top 124) := by
    obtain ⟨_, F⟩ := c.def_ 0 15 (d := ⟨.glo "_law_is_frac", "_law_is_frac", "_law_is_frac", top 124, []⟩) rfl rfl
    exact ⟨_, _, F, He.glo_ok X G (c.fact 0 31 (f := .fa (.glo "_law_is_frac")) rfl rfl)⟩
  have t_c__law_is_frac := c__law_is_frac (P := P) (w := w) (K := K) (mg := mg) (base := base) S_c__law_is_frac B (c__law_gcd := t_c__law_gcd) (c__law_is_int := t_c__law_is_int)
  have S_c__law_row : Std K mg "_law_row" (top 125) := by
    obtain ⟨_, F⟩ := c.def_ 0 16 (d := ⟨.glo "_law_row", "_law_row", "_law_row", top 125, []⟩) rfl rfl
    exact ⟨_, _, F, He.glo_ok X G (c.fact 0 32 (f := .fa (.glo "_law_row")) rfl rfl)⟩
  have t_c__law_row := c__law_row (P := P) (w := w) (K := K) (mg := mg) (base := base) S_c__law_row B (c__law_draw := t_c__law_draw)
  have S_c__law_all_edits : Std K mg "_law_all_edits" (top 126) := by
    obtain ⟨_, F⟩ := c.def_ 0 17 (d := ⟨.glo "_law_all_edits", "_law_all_edits", "_law_all_edits", top 126, []⟩) rfl rfl
    exact ⟨_, _, F, He.glo_ok X G (c.fact 0 33 (f := .fa (.glo "_law_all_edits")) rfl rfl)⟩
  have t_c__law_all_edits := c__law_all_edits (P := P) (w := w) (K := K) (mg := mg) (base := base) S_c__law_all_edits B 
  have S_c__law_near : Std K mg "_law_near" (top 127) := by
    obtain ⟨_, F⟩ := c.def_ 0 18 (d := ⟨.glo "_law_near", "_law_near", "_law_near", top 127, []⟩) rfl rfl
    exact ⟨_, _, F, He.glo_ok X G (c.fact 0 34 (f := .fa (.glo "_law_near")) rfl rfl)⟩
  have t_c__law_near := c__law_near (P := P) (w := w) (K := K) (mg := mg) (base := base) S_c__law_near B (c__law_all_edits := t_c__law_all_edits) (c__law_draw := t_c__law_draw)
  have S_c__law_table : Std K mg "_law_table" (top 128) := by
    obtain ⟨_, F⟩ := c.def_ 0 19 (d := ⟨.glo "_law_table", "_law_table", "_law_table", top 128, []⟩) rfl rfl
    exact ⟨_, _, F, He.glo_ok X G (c.fact 0 35 (f := .fa (.glo "_law_table")) rfl rfl)⟩
  have t_c__law_table := c__law_table (P := P) (w := w) (K := K) (mg := mg) (base := base) S_c__law_table B (c__law_draw := t_c__law_draw)
  have S_c__law_reader : Std K mg "_law_reader" (top 129) := by
    obtain ⟨_, F⟩ := c.def_ 0 20 (d := ⟨.glo "_law_reader", "_law_reader", "_law_reader", top 129, []⟩) rfl rfl
    exact ⟨_, _, F, He.glo_ok X G (c.fact 0 36 (f := .fa (.glo "_law_reader")) rfl rfl)⟩
  have t_c__law_reader := c__law_reader (P := P) (w := w) (K := K) (mg := mg) (base := base) S_c__law_reader B (c__law_draw := t_c__law_draw)
  have S_c__law_goes : Std K mg "_law_goes" (top 131) := by
    obtain ⟨_, F⟩ := c.def_ 0 21 (d := ⟨.glo "_law_goes", "_law_goes", "_law_goes", top 131, []⟩) rfl rfl
    exact ⟨_, _, F, He.glo_ok X G (c.fact 0 37 (f := .fa (.glo "_law_goes")) rfl rfl)⟩
  have t_c__law_goes := c__law_goes (P := P) (w := w) (K := K) (mg := mg) (base := base) S_c__law_goes B (c__law_draw := t_c__law_draw)
  have S_c__law_shown : Std K mg "_law_shown" (top 132) := by
    obtain ⟨_, F⟩ := c.def_ 0 22 (d := ⟨.glo "_law_shown", "_law_shown", "_law_shown", top 132, []⟩) rfl rfl
    exact ⟨_, _, F, He.glo_ok X G (c.fact 0 38 (f := .fa (.glo "_law_shown")) rfl rfl)⟩
  have t_c__law_shown := c__law_shown (P := P) (w := w) (K := K) (mg := mg) (base := base) S_c__law_shown B (c__law_row := t_c__law_row)
  have S_c__law_ladder : Std K mg "_law_ladder" (top 133) := by
    obtain ⟨_, F⟩ := c.def_ 0 23 (d := ⟨.glo "_law_ladder", "_law_ladder", "_law_ladder", top 133, []⟩) rfl rfl
    exact ⟨_, _, F, He.glo_ok X G (c.fact 0 39 (f := .fa (.glo "_law_ladder")) rfl rfl)⟩
  have t_c__law_ladder := c__law_ladder (P := P) (w := w) (K := K) (mg := mg) (base := base) S_c__law_ladder B (c__law_draw := t_c__law_draw)
  have S_c__law_question : Std K mg "_law_question" (top 134) := by
    obtain ⟨_, F⟩ := c.def_ 0 24 (d := ⟨.glo "_law_question", "_law_question", "_law_question", top 134, []⟩) rfl rfl
    exact ⟨_, _, F, He.glo_ok X G (c.fact 0 40 (f := .fa (.glo "_law_question")) rfl rfl)⟩
  have t_c__law_question := c__law_question (P := P) (w := w) (K := K) (mg := mg) (base := base) S_c__law_question B (c__law_draw := t_c__law_draw) (c__law_goes := t_c__law_goes) (c__law_ladder := t_c__law_ladder) (c__law_shown := t_c__law_shown)
  have S_c__law_house : Std K mg "_law_house" (top 135) := by
    obtain ⟨_, F⟩ := c.def_ 0 25 (d := ⟨.glo "_law_house", "_law_house", "_law_house", top 135, []⟩) rfl rfl
    exact ⟨_, _, F, He.glo_ok X G (c.fact 0 41 (f := .fa (.glo "_law_house")) rfl rfl)⟩
  have t_c__law_house := c__law_house (P := P) (w := w) (K := K) (mg := mg) (base := base) S_c__law_house B (c__law_draw := t_c__law_draw) (c__law_question := t_c__law_question)
  have S_c__law_small_house : Std K mg "_law_small_house" (top 136) := by
    obtain ⟨_, F⟩ := c.def_ 0 26 (d := ⟨.glo "_law_small_house", "_law_small_house", "_law_small_house", top 136, []⟩) rfl rfl
    exact ⟨_, _, F, He.glo_ok X G (c.fact 0 42 (f := .fa (.glo "_law_small_house")) rfl rfl)⟩
  have t_c__law_small_house := c__law_small_house (P := P) (w := w) (K := K) (mg := mg) (base := base) S_c__law_small_house B (c__law_draw := t_c__law_draw) (c__law_house := t_c__law_house) (c__law_near := t_c__law_near) (c__law_reader := t_c__law_reader)
  have S_c__law_busy : Std K mg "_law_busy" (top 137) := by
    obtain ⟨_, F⟩ := c.def_ 0 27 (d := ⟨.glo "_law_busy", "_law_busy", "_law_busy", top 137, []⟩) rfl rfl
    exact ⟨_, _, F, He.glo_ok X G (c.fact 0 43 (f := .fa (.glo "_law_busy")) rfl rfl)⟩
  have t_c__law_busy := c__law_busy (P := P) (w := w) (K := K) (mg := mg) (base := base) S_c__law_busy B (c__law_question := t_c__law_question)
  have S_c__law_number : Std K mg "_law_number" (top 144) := by
    obtain ⟨_, F⟩ := c.def_ 0 28 (d := ⟨.glo "_law_number", "_law_number", "_law_number", top 144, []⟩) rfl rfl
    exact ⟨_, _, F, He.glo_ok X G (c.fact 0 44 (f := .fa (.glo "_law_number")) rfl rfl)⟩
  have t_c__law_number := c__law_number (P := P) (w := w) (K := K) (mg := mg) (base := base) S_c__law_number B 
  have S_c_number_told : Std K mg "number_told" (top 104) := by
    obtain ⟨_, F⟩ := c.def_ 0 29 (d := ⟨.glo "number_told", "number_told", "number_told", top 104, []⟩) rfl rfl
    exact ⟨_, _, F, He.glo_ok X G (c.fact 0 45 (f := .fa (.glo "number_told")) rfl rfl)⟩
  have t_c_number_told := c_number_told (P := P) (w := w) (K := K) (mg := mg) (base := base) S_c_number_told B 
  have S_c__law_ticket : Std K mg "_law_ticket" (top 145) := by
    obtain ⟨_, F⟩ := c.def_ 0 30 (d := ⟨.glo "_law_ticket", "_law_ticket", "_law_ticket", top 145, []⟩) rfl rfl
    exact ⟨_, _, F, He.glo_ok X G (c.fact 0 46 (f := .fa (.glo "_law_ticket")) rfl rfl)⟩
  have t_c__law_ticket := c__law_ticket (P := P) (w := w) (K := K) (mg := mg) (base := base) S_c__law_ticket B (c__law_draw := t_c__law_draw)
  have S_c__law_price : Std K mg "_law_price" (top 141) := by
    obtain ⟨_, F⟩ := c.def_ 0 31 (d := ⟨.glo "_law_price", "_law_price", "_law_price", top 141, []⟩) rfl rfl
    exact ⟨_, _, F, He.glo_ok X G (c.fact 0 47 (f := .fa (.glo "_law_price")) rfl rfl)⟩
  have t_c__law_price := c__law_price (P := P) (w := w) (K := K) (mg := mg) (base := base) S_c__law_price B (c__law_draw := t_c__law_draw) (c__law_f := t_c__law_f)
  have S_c__law_rates : Std K mg "_law_rates" (top 142) := by
    obtain ⟨_, F⟩ := c.def_ 1 0 (d := ⟨.glo "_law_rates", "_law_rates", "_law_rates", top 142, []⟩) rfl rfl
    exact ⟨_, _, F, He.glo_ok X G (c.fact 1 0 (f := .fa (.glo "_law_rates")) rfl rfl)⟩
  have t_c__law_rates := c__law_rates (P := P) (w := w) (K := K) (mg := mg) (base := base) S_c__law_rates B (c__law_price := t_c__law_price)
  have S_c__law_budget : Std K mg "_law_budget" (top 143) := by
    obtain ⟨_, F⟩ := c.def_ 1 1 (d := ⟨.glo "_law_budget", "_law_budget", "_law_budget", top 143, []⟩) rfl rfl
    exact ⟨_, _, F, He.glo_ok X G (c.fact 1 1 (f := .fa (.glo "_law_budget")) rfl rfl)⟩
  have t_c__law_budget := c__law_budget (P := P) (w := w) (K := K) (mg := mg) (base := base) S_c__law_budget B (c__law_draw := t_c__law_draw) (c__law_great := t_c__law_great) (c__law_minus := t_c__law_minus) (c__law_pick := t_c__law_pick) (c__law_plus := t_c__law_plus) (c__law_times := t_c__law_times)
  have S_c__law_broad : Std K mg "_law_broad" (top 138) := by
    obtain ⟨_, F⟩ := c.def_ 1 2 (d := ⟨.glo "_law_broad", "_law_broad", "_law_broad", top 138, []⟩) rfl rfl
    exact ⟨_, _, F, He.glo_ok X G (c.fact 1 2 (f := .fa (.glo "_law_broad")) rfl rfl)⟩
  have t_c__law_broad := c__law_broad (P := P) (w := w) (K := K) (mg := mg) (base := base) S_c__law_broad B (c__law_draw := t_c__law_draw) (c__law_row := t_c__law_row)
  have S_c__law_long : Std K mg "_law_long" (top 139) := by
    obtain ⟨_, F⟩ := c.def_ 1 3 (d := ⟨.glo "_law_long", "_law_long", "_law_long", top 139, []⟩) rfl rfl
    exact ⟨_, _, F, He.glo_ok X G (c.fact 1 3 (f := .fa (.glo "_law_long")) rfl rfl)⟩
  have t_c__law_long := c__law_long (P := P) (w := w) (K := K) (mg := mg) (base := base) S_c__law_long B (c__law_draw := t_c__law_draw) (c__law_row := t_c__law_row)
  have S_c__law_some_house : Std K mg "_law_some_house" (top 140) := by
    obtain ⟨_, F⟩ := c.def_ 1 4 (d := ⟨.glo "_law_some_house", "_law_some_house", "_law_some_house", top 140, []⟩) rfl rfl
    exact ⟨_, _, F, He.glo_ok X G (c.fact 1 4 (f := .fa (.glo "_law_some_house")) rfl rfl)⟩
  have t_c__law_some_house := c__law_some_house (P := P) (w := w) (K := K) (mg := mg) (base := base) S_c__law_some_house B (c__law_broad := t_c__law_broad) (c__law_busy := t_c__law_busy) (c__law_draw := t_c__law_draw) (c__law_house := t_c__law_house) (c__law_long := t_c__law_long) (c__law_near := t_c__law_near) (c__law_reader := t_c__law_reader) (c__law_small_house := t_c__law_small_house)
  have S_c_check_number : Std K mg "check_number" (top 30) := by
    obtain ⟨_, F⟩ := c.def_ 1 5 (d := ⟨.glo "check_number", "check_number", "check_number", top 30, []⟩) rfl rfl
    exact ⟨_, _, F, He.glo_ok X G (c.fact 1 6 (f := .fa (.glo "check_number")) rfl rfl)⟩
  have t_c_check_number := c_check_number (P := P) (w := w) (K := K) (mg := mg) (base := base) S_c_check_number B (h_BASE := ⟨He.int_ok X G (c.fact 1 5 (f := .fa (.int "BASE" 9973)) rfl rfl)⟩)
  have S_c__law_line : Std K mg "_law_line" (top 146) := by
    obtain ⟨_, F⟩ := c.def_ 1 6 (d := ⟨.glo "_law_line", "_law_line", "_law_line", top 146, []⟩) rfl rfl
    exact ⟨_, _, F, He.glo_ok X G (c.fact 1 7 (f := .fa (.glo "_law_line")) rfl rfl)⟩
  have t_c__law_line := c__law_line (P := P) (w := w) (K := K) (mg := mg) (base := base) S_c__law_line B (hnd := hnd)
  have S_c_decimal : Std K mg "decimal" (top 31) := by
    obtain ⟨_, F⟩ := c.def_ 1 7 (d := ⟨.glo "decimal", "decimal", "decimal", top 31, []⟩) rfl rfl
    exact ⟨_, _, F, He.glo_ok X G (c.fact 1 10 (f := .fa (.glo "decimal")) rfl rfl)⟩
  have t_c_decimal := c_decimal (P := P) (w := w) (K := K) (mg := mg) (base := base) S_c_decimal B (hnd := hnd) (h_BLOCK := ⟨He.int_ok X G (c.fact 1 8 (f := .fa (.int "BLOCK" (10 ^ 60))) rfl rfl)⟩) (h_BLOCK_DIGITS := ⟨He.int_ok X G (c.fact 1 9 (f := .fa (.int "BLOCK_DIGITS" 60)) rfl rfl)⟩)
  have S_c_sealed : Std K mg "sealed" (top 32) := by
    obtain ⟨_, F⟩ := c.def_ 1 8 (d := ⟨.glo "sealed", "sealed", "sealed", top 32, []⟩) rfl rfl
    exact ⟨_, _, F, He.glo_ok X G (c.fact 1 11 (f := .fa (.glo "sealed")) rfl rfl)⟩
  have t_c_sealed := c_sealed (P := P) (w := w) (K := K) (mg := mg) (base := base) S_c_sealed B (c_check_number := t_c_check_number) (c_decimal := t_c_decimal)
  have S_c_lot_line : Std K mg "lot_line" (top 33) := by
    obtain ⟨_, F⟩ := c.def_ 1 9 (d := ⟨.glo "lot_line", "lot_line", "lot_line", top 33, []⟩) rfl rfl
    exact ⟨_, _, F, He.glo_ok X G (c.fact 1 12 (f := .fa (.glo "lot_line")) rfl rfl)⟩
  have t_c_lot_line := c_lot_line (P := P) (w := w) (K := K) (mg := mg) (base := base) S_c_lot_line B (c_decimal := t_c_decimal) (c_sealed := t_c_sealed)
  have S_c_ask_line : Std K mg "ask_line" (top 34) := by
    obtain ⟨_, F⟩ := c.def_ 1 10 (d := ⟨.glo "ask_line", "ask_line", "ask_line", top 34, []⟩) rfl rfl
    exact ⟨_, _, F, He.glo_ok X G (c.fact 1 13 (f := .fa (.glo "ask_line")) rfl rfl)⟩
  have t_c_ask_line := c_ask_line (P := P) (w := w) (K := K) (mg := mg) (base := base) S_c_ask_line B (c_decimal := t_c_decimal) (c_sealed := t_c_sealed)
  have S_c_say_line : Std K mg "say_line" (top 35) := by
    obtain ⟨_, F⟩ := c.def_ 1 11 (d := ⟨.glo "say_line", "say_line", "say_line", top 35, []⟩) rfl rfl
    exact ⟨_, _, F, He.glo_ok X G (c.fact 1 14 (f := .fa (.glo "say_line")) rfl rfl)⟩
  have t_c_say_line := c_say_line (P := P) (w := w) (K := K) (mg := mg) (base := base) S_c_say_line B (c_decimal := t_c_decimal) (c_sealed := t_c_sealed)
  have S_c_small_number : Std K mg "small_number" (top 36) := by
    obtain ⟨_, F⟩ := c.def_ 1 12 (d := ⟨.glo "small_number", "small_number", "small_number", top 36, []⟩) rfl rfl
    exact ⟨_, _, F, He.glo_ok X G (c.fact 1 17 (f := .fa (.glo "small_number")) rfl rfl)⟩
  have t_c_small_number := c_small_number (P := P) (w := w) (K := K) (mg := mg) (base := base) S_c_small_number B (h_DIGITS := ⟨He.str_ok X G (c.fact 1 15 (f := .fa (.str "DIGITS" "0123456789")) rfl rfl)⟩) (h_MOST_DIGITS := ⟨He.int_ok X G (c.fact 1 16 (f := .fa (.int "MOST_DIGITS" 6)) rfl rfl)⟩)
  have S_c_field : Std K mg "field" (top 37) := by
    obtain ⟨_, F⟩ := c.def_ 1 13 (d := ⟨.glo "field", "field", "field", top 37, []⟩) rfl rfl
    exact ⟨_, _, F, He.glo_ok X G (c.fact 1 18 (f := .fa (.glo "field")) rfl rfl)⟩
  have t_c_field := c_field (P := P) (w := w) (K := K) (mg := mg) (base := base) S_c_field B (c_small_number := t_c_small_number)
  have S_c_whole_lines : Std K mg "whole_lines" (top 38) := by
    obtain ⟨_, F⟩ := c.def_ 1 14 (d := ⟨.glo "whole_lines", "whole_lines", "whole_lines", top 38, []⟩) rfl rfl
    exact ⟨_, _, F, He.glo_ok X G (c.fact 1 19 (f := .fa (.glo "whole_lines")) rfl rfl)⟩
  have t_c_whole_lines := c_whole_lines (P := P) (w := w) (K := K) (mg := mg) (base := base) S_c_whole_lines B 
  have S_c_begin : Std K mg "begin" (top 39) := by
    obtain ⟨_, F⟩ := c.def_ 1 15 (d := ⟨.glo "begin", "begin", "begin", top 39, []⟩) rfl rfl
    exact ⟨_, _, F, He.glo_ok X G (c.fact 1 22 (f := .fa (.glo "begin")) rfl rfl)⟩
  have t_c_begin := c_begin (P := P) (w := w) (K := K) (mg := mg) (base := base) S_c_begin B (h_ONE := ⟨gct_of (ps := [.int 1, .int 1]) X G (c.fact 1 21 (f := .fa (.glo "ONE")) rfl rfl) (c.fact 1 20 (f := .tup "ONE" [.int 1, .int 1]) rfl rfl) (fun _ => IsPs.cons (p := .int 1) rfl (IsPs.cons (p := .int 1) rfl IsPs.nil))⟩) (c_field := t_c_field) (c_lot_line := t_c_lot_line)
  have S_c_question_of : Std K mg "question_of" (top 20) := by
    obtain ⟨_, F⟩ := c.def_ 1 16 (d := ⟨.glo "question_of", "question_of", "question_of", top 20, []⟩) rfl rfl
    exact ⟨_, _, F, He.glo_ok X G (c.fact 1 23 (f := .fa (.glo "question_of")) rfl rfl)⟩
  have t_c_question_of := c_question_of (P := P) (w := w) (K := K) (mg := mg) (base := base) S_c_question_of B 
  have S_c_answers_of : Std K mg "answers_of" (top 21) := by
    obtain ⟨_, F⟩ := c.def_ 1 17 (d := ⟨.glo "answers_of", "answers_of", "answers_of", top 21, []⟩) rfl rfl
    exact ⟨_, _, F, He.glo_ok X G (c.fact 1 24 (f := .fa (.glo "answers_of")) rfl rfl)⟩
  have t_c_answers_of := c_answers_of (P := P) (w := w) (K := K) (mg := mg) (base := base) S_c_answers_of B 
  have S_c_is_step_of : Std K mg "is_step_of" (top 23) := by
    obtain ⟨_, F⟩ := c.def_ 1 18 (d := ⟨.glo "is_step_of", "is_step_of", "is_step_of", top 23, []⟩) rfl rfl
    exact ⟨_, _, F, He.glo_ok X G (c.fact 1 25 (f := .fa (.glo "is_step_of")) rfl rfl)⟩
  have t_c_is_step_of := c_is_step_of (P := P) (w := w) (K := K) (mg := mg) (base := base) S_c_is_step_of B (c_answers_of := t_c_answers_of) (c_question_of := t_c_question_of)
  have S_c_asked_on : Std K mg "asked_on" (top 40) := by
    obtain ⟨_, F⟩ := c.def_ 1 19 (d := ⟨.glo "asked_on", "asked_on", "asked_on", top 40, []⟩) rfl rfl
    exact ⟨_, _, F, He.glo_ok X G (c.fact 1 26 (f := .fa (.glo "asked_on")) rfl rfl)⟩
  have t_c_asked_on := c_asked_on (P := P) (w := w) (K := K) (mg := mg) (base := base) S_c_asked_on B (c_ask_line := t_c_ask_line) (c_field := t_c_field) (c_is_below := t_c_is_below) (c_times := t_c_times)
  have S_c_said_on : Std K mg "said_on" (top 41) := by
    obtain ⟨_, F⟩ := c.def_ 1 20 (d := ⟨.glo "said_on", "said_on", "said_on", top 41, []⟩) rfl rfl
    exact ⟨_, _, F, He.glo_ok X G (c.fact 1 27 (f := .fa (.glo "said_on")) rfl rfl)⟩
  have t_c_said_on := c_said_on (P := P) (w := w) (K := K) (mg := mg) (base := base) S_c_said_on B (c_field := t_c_field) (c_is_step_of := t_c_is_step_of) (c_say_line := t_c_say_line)
  have S_c_read_on : Std K mg "read_on" (top 42) := by
    obtain ⟨_, F⟩ := c.def_ 1 21 (d := ⟨.glo "read_on", "read_on", "read_on", top 42, []⟩) rfl rfl
    exact ⟨_, _, F, He.glo_ok X G (c.fact 1 28 (f := .fa (.glo "read_on")) rfl rfl)⟩
  have t_c_read_on := c_read_on (P := P) (w := w) (K := K) (mg := mg) (base := base) S_c_read_on B (c_asked_on := t_c_asked_on) (c_said_on := t_c_said_on)
  have S_c_read_journal : Std K mg "read_journal" (top 43) := by
    obtain ⟨_, F⟩ := c.def_ 1 22 (d := ⟨.glo "read_journal", "read_journal", "read_journal", top 43, []⟩) rfl rfl
    exact ⟨_, _, F, He.glo_ok X G (c.fact 1 29 (f := .fa (.glo "read_journal")) rfl rfl)⟩
  have t_c_read_journal := c_read_journal (P := P) (w := w) (K := K) (mg := mg) (base := base) S_c_read_journal B (c_begin := t_c_begin) (c_read_on := t_c_read_on) (c_whole_lines := t_c_whole_lines)
  have S_c__law_begun : Std K mg "_law_begun" (top 147) := by
    obtain ⟨_, F⟩ := c.def_ 1 23 (d := ⟨.glo "_law_begun", "_law_begun", "_law_begun", top 147, []⟩) rfl rfl
    exact ⟨_, _, F, He.glo_ok X G (c.fact 1 30 (f := .fa (.glo "_law_begun")) rfl rfl)⟩
  have t_c__law_begun := c__law_begun (P := P) (w := w) (K := K) (mg := mg) (base := base) S_c__law_begun B (hnd := hnd) (c__law_line := t_c__law_line) (c__law_number := t_c__law_number)
  have S_c__law_is_read : Std K mg "_law_is_read" (top 153) := by
    obtain ⟨_, F⟩ := c.def_ 1 24 (d := ⟨.glo "_law_is_read", "_law_is_read", "_law_is_read", top 153, []⟩) rfl rfl
    exact ⟨_, _, F, He.glo_ok X G (c.fact 1 31 (f := .fa (.glo "_law_is_read")) rfl rfl)⟩
  have t_c__law_is_read := c__law_is_read (P := P) (w := w) (K := K) (mg := mg) (base := base) S_c__law_is_read B (c__law_is_frac := t_c__law_is_frac) (c__law_is_ints := t_c__law_is_ints) (c__law_is_rows := t_c__law_is_rows) (c_read_journal := t_c_read_journal)
  have S_p_Sitting_mode : PStd K (He.ga K "Sitting") "mode" "Sitting.mode" (meth 106 2) := by
    obtain ⟨_, F⟩ := c.def_ 1 25 (d := ⟨.get "Sitting" "mode", "mode", "Sitting.mode", meth 106 2, []⟩) rfl rfl
    exact ⟨_, _, _, F, He.cls_ok (c.fact 1 32 (f := .fa (.cls "Sitting")) rfl rfl), prop_ok (c.fact 1 35 (f := .prop "Sitting" "mode") rfl rfl)⟩
  have t_p_Sitting_mode := p_Sitting_mode (P := P) (w := w) (K := K) (mg := mg) (base := base) S_p_Sitting_mode B (C_Sitting := He.ga K "Sitting") (cl_Sitting := He.cls_ok (c.fact 1 32 (f := .fa (.cls "Sitting")) rfl rfl)) (n_Sitting_contents := He.noat_ok (c.fact 1 33 (f := .fa (.noat "Sitting" "contents")) rfl rfl))
  have S_p_Sitting_lot : PStd K (He.ga K "Sitting") "lot" "Sitting.lot" (meth 106 3) := by
    obtain ⟨_, F⟩ := c.def_ 1 26 (d := ⟨.get "Sitting" "lot", "lot", "Sitting.lot", meth 106 3, []⟩) rfl rfl
    exact ⟨_, _, _, F, He.cls_ok (c.fact 1 32 (f := .fa (.cls "Sitting")) rfl rfl), prop_ok (c.fact 1 36 (f := .prop "Sitting" "lot") rfl rfl)⟩
  have t_p_Sitting_lot := p_Sitting_lot (P := P) (w := w) (K := K) (mg := mg) (base := base) S_p_Sitting_lot B (C_Sitting := He.ga K "Sitting") (cl_Sitting := He.cls_ok (c.fact 1 32 (f := .fa (.cls "Sitting")) rfl rfl)) (n_Sitting_contents := He.noat_ok (c.fact 1 33 (f := .fa (.noat "Sitting" "contents")) rfl rfl))
  have S_p_Sitting_talk : PStd K (He.ga K "Sitting") "talk" "Sitting.talk" (meth 106 4) := by
    obtain ⟨_, F⟩ := c.def_ 1 27 (d := ⟨.get "Sitting" "talk", "talk", "Sitting.talk", meth 106 4, []⟩) rfl rfl
    exact ⟨_, _, _, F, He.cls_ok (c.fact 1 32 (f := .fa (.cls "Sitting")) rfl rfl), prop_ok (c.fact 1 37 (f := .prop "Sitting" "talk") rfl rfl)⟩
  have t_p_Sitting_talk := p_Sitting_talk (P := P) (w := w) (K := K) (mg := mg) (base := base) S_p_Sitting_talk B (C_Sitting := He.ga K "Sitting") (cl_Sitting := He.cls_ok (c.fact 1 32 (f := .fa (.cls "Sitting")) rfl rfl)) (n_Sitting_contents := He.noat_ok (c.fact 1 33 (f := .fa (.noat "Sitting" "contents")) rfl rfl))
  have S_s_Sitting_standing : SStd K (He.ga K "Sitting") "standing" "Sitting.standing" (meth 106 6) := by
    obtain ⟨_, F⟩ := c.def_ 1 28 (d := ⟨.set "Sitting" "standing", "standing", "Sitting.standing", meth 106 6, []⟩) rfl rfl
    exact ⟨_, _, _, F, He.cls_ok (c.fact 1 32 (f := .fa (.cls "Sitting")) rfl rfl), pset_ok (c.fact 1 38 (f := .pset "Sitting" "standing") rfl rfl)⟩
  have t_s_Sitting_standing := s_Sitting_standing (P := P) (w := w) (K := K) (mg := mg) (base := base) S_s_Sitting_standing B (C_Sitting := He.ga K "Sitting") (cl_Sitting := He.cls_ok (c.fact 1 32 (f := .fa (.cls "Sitting")) rfl rfl)) (n_Sitting_contents := He.noat_ok (c.fact 1 33 (f := .fa (.noat "Sitting" "contents")) rfl rfl))
  have S_m_Sitting_resume : MStd K (He.ga K "Sitting") "resume" "Sitting.resume" (meth 106 7) := by
    obtain ⟨_, F⟩ := c.def_ 1 29 (d := ⟨.met "Sitting" "resume", "resume", "Sitting.resume", meth 106 7, []⟩) rfl rfl
    exact ⟨_, _, F, He.cls_ok (c.fact 1 32 (f := .fa (.cls "Sitting")) rfl rfl), He.meth_ok (c.fact 1 39 (f := .fa (.meth "Sitting" "resume")) rfl rfl)⟩
  have t_m_Sitting_resume := m_Sitting_resume (P := P) (w := w) (K := K) (mg := mg) (base := base) S_m_Sitting_resume B (C_Sitting := He.ga K "Sitting") (s_Sitting_standing := t_s_Sitting_standing)
  have S_c_after : Std K mg "after" (top 80) := by
    obtain ⟨_, F⟩ := c.def_ 1 30 (d := ⟨.glo "after", "after", "after", top 80, []⟩) rfl rfl
    exact ⟨_, _, F, He.glo_ok X G (c.fact 1 40 (f := .fa (.glo "after")) rfl rfl)⟩
  have t_c_after := c_after (P := P) (w := w) (K := K) (mg := mg) (base := base) S_c_after B 
  have S_c_state_of : Std K mg "state_of" (top 81) := by
    obtain ⟨_, F⟩ := c.def_ 1 31 (d := ⟨.glo "state_of", "state_of", "state_of", top 81, []⟩) rfl rfl
    exact ⟨_, _, F, He.glo_ok X G (c.fact 1 41 (f := .fa (.glo "state_of")) rfl rfl)⟩
  have t_c_state_of := c_state_of (P := P) (w := w) (K := K) (mg := mg) (base := base) S_c_state_of B (c_after := t_c_after)
  have S_c__law_state : Std K mg "_law_state" (top 130) := by
    obtain ⟨_, F⟩ := c.def_ 1 32 (d := ⟨.glo "_law_state", "_law_state", "_law_state", top 130, []⟩) rfl rfl
    exact ⟨_, _, F, He.glo_ok X G (c.fact 1 42 (f := .fa (.glo "_law_state")) rfl rfl)⟩
  have t_c__law_state := c__law_state (P := P) (w := w) (K := K) (mg := mg) (base := base) S_c__law_state B 
  have S_k_Sitting : IStd K mg "Sitting" (He.ga K "Sitting") "Sitting.__init__" (meth 106 0) [V.int 0] := by
    obtain ⟨_, F⟩ := c.def_ 1 33 (d := ⟨.met "Sitting" "__init__", "__init__", "Sitting.__init__", meth 106 0, [V.int 0]⟩) rfl rfl
    exact ⟨_, _, F, He.mkr_ok (c.fact 1 45 (f := .fa (.mkr "Sitting")) rfl rfl), He.glo_ok X G (c.fact 1 34 (f := .fa (.glo "Sitting")) rfl rfl)⟩
  have t_k_Sitting := k_Sitting (P := P) (w := w) (K := K) (mg := mg) (base := base) S_k_Sitting B (C_Sitting := He.ga K "Sitting") (cl_Sitting := He.cls_ok (c.fact 1 32 (f := .fa (.cls "Sitting")) rfl rfl)) (n_Sitting_contents := He.noat_ok (c.fact 1 33 (f := .fa (.noat "Sitting" "contents")) rfl rfl)) (n_Sitting_read_state := He.noat_ok (c.fact 1 43 (f := .fa (.noat "Sitting" "read_state")) rfl rfl)) (n_Sitting_sat_house := He.noat_ok (c.fact 1 44 (f := .fa (.noat "Sitting" "sat_house")) rfl rfl)) (c_number_told := t_c_number_told) (c_state_of := t_c_state_of)
  have S_p_Guard_mode : PStd K (He.ga K "Guard") "mode" "Guard.mode" (meth 108 3) := by
    obtain ⟨_, F⟩ := c.def_ 2 0 (d := ⟨.get "Guard" "mode", "mode", "Guard.mode", meth 108 3, []⟩) rfl rfl
    exact ⟨_, _, _, F, He.cls_ok (c.fact 2 0 (f := .fa (.cls "Guard")) rfl rfl), prop_ok (c.fact 2 3 (f := .prop "Guard" "mode") rfl rfl)⟩
  have t_p_Guard_mode := p_Guard_mode (P := P) (w := w) (K := K) (mg := mg) (base := base) S_p_Guard_mode B (C_Guard := He.ga K "Guard") (C_Sitting := He.ga K "Sitting") (cl_Guard := He.cls_ok (c.fact 2 0 (f := .fa (.cls "Guard")) rfl rfl)) (n_Guard_seat := He.noat_ok (c.fact 2 1 (f := .fa (.noat "Guard" "seat")) rfl rfl)) (p_Sitting_mode := t_p_Sitting_mode)
  have S_p_Guard_spent : PStd K (He.ga K "Guard") "spent" "Guard.spent" (meth 108 6) := by
    obtain ⟨_, F⟩ := c.def_ 2 1 (d := ⟨.get "Guard" "spent", "spent", "Guard.spent", meth 108 6, []⟩) rfl rfl
    exact ⟨_, _, _, F, He.cls_ok (c.fact 2 0 (f := .fa (.cls "Guard")) rfl rfl), prop_ok (c.fact 2 5 (f := .prop "Guard" "spent") rfl rfl)⟩
  have t_p_Guard_spent := p_Guard_spent (P := P) (w := w) (K := K) (mg := mg) (base := base) S_p_Guard_spent B (C_Guard := He.ga K "Guard") (C_Sitting := He.ga K "Sitting") (cl_Guard := He.cls_ok (c.fact 2 0 (f := .fa (.cls "Guard")) rfl rfl)) (n_Guard_paid := He.noat_ok (c.fact 2 4 (f := .fa (.noat "Guard" "paid")) rfl rfl))
  have S_p_Guard_lot : PStd K (He.ga K "Guard") "lot" "Guard.lot" (meth 108 4) := by
    obtain ⟨_, F⟩ := c.def_ 2 2 (d := ⟨.get "Guard" "lot", "lot", "Guard.lot", meth 108 4, []⟩) rfl rfl
    exact ⟨_, _, _, F, He.cls_ok (c.fact 2 0 (f := .fa (.cls "Guard")) rfl rfl), prop_ok (c.fact 2 6 (f := .prop "Guard" "lot") rfl rfl)⟩
  have t_p_Guard_lot := p_Guard_lot (P := P) (w := w) (K := K) (mg := mg) (base := base) S_p_Guard_lot B (C_Guard := He.ga K "Guard") (C_Sitting := He.ga K "Sitting") (cl_Guard := He.cls_ok (c.fact 2 0 (f := .fa (.cls "Guard")) rfl rfl)) (n_Guard_seat := He.noat_ok (c.fact 2 1 (f := .fa (.noat "Guard" "seat")) rfl rfl)) (p_Sitting_lot := t_p_Sitting_lot)
  have S_p_Guard_talk : PStd K (He.ga K "Guard") "talk" "Guard.talk" (meth 108 5) := by
    obtain ⟨_, F⟩ := c.def_ 2 3 (d := ⟨.get "Guard" "talk", "talk", "Guard.talk", meth 108 5, []⟩) rfl rfl
    exact ⟨_, _, _, F, He.cls_ok (c.fact 2 0 (f := .fa (.cls "Guard")) rfl rfl), prop_ok (c.fact 2 7 (f := .prop "Guard" "talk") rfl rfl)⟩
  have t_p_Guard_talk := p_Guard_talk (P := P) (w := w) (K := K) (mg := mg) (base := base) S_p_Guard_talk B (C_Guard := He.ga K "Guard") (C_Sitting := He.ga K "Sitting") (cl_Guard := He.cls_ok (c.fact 2 0 (f := .fa (.cls "Guard")) rfl rfl)) (n_Guard_seat := He.noat_ok (c.fact 2 1 (f := .fa (.noat "Guard" "seat")) rfl rfl)) (p_Sitting_talk := t_p_Sitting_talk)
  have S_p_Guard_journal : PStd K (He.ga K "Guard") "journal" "Guard.journal" (meth 108 7) := by
    obtain ⟨_, F⟩ := c.def_ 2 4 (d := ⟨.get "Guard" "journal", "journal", "Guard.journal", meth 108 7, []⟩) rfl rfl
    exact ⟨_, _, _, F, He.cls_ok (c.fact 2 0 (f := .fa (.cls "Guard")) rfl rfl), prop_ok (c.fact 2 9 (f := .prop "Guard" "journal") rfl rfl)⟩
  have t_p_Guard_journal := p_Guard_journal (P := P) (w := w) (K := K) (mg := mg) (base := base) S_p_Guard_journal B (C_Guard := He.ga K "Guard") (C_Sitting := He.ga K "Sitting") (cl_Guard := He.cls_ok (c.fact 2 0 (f := .fa (.cls "Guard")) rfl rfl)) (n_Guard_written := He.noat_ok (c.fact 2 8 (f := .fa (.noat "Guard" "written")) rfl rfl))
  have S_k_Guard : IStd K mg "Guard" (He.ga K "Guard") "Guard.__init__" (meth 108 0) [V.int 0] := by
    obtain ⟨_, F⟩ := c.def_ 2 5 (d := ⟨.met "Guard" "__init__", "__init__", "Guard.__init__", meth 108 0, [V.int 0]⟩) rfl rfl
    exact ⟨_, _, F, He.mkr_ok (c.fact 2 13 (f := .fa (.mkr "Guard")) rfl rfl), He.glo_ok X G (c.fact 2 2 (f := .fa (.glo "Guard")) rfl rfl)⟩
  have t_k_Guard := k_Guard (P := P) (w := w) (K := K) (mg := mg) (base := base) S_k_Guard B (C_Guard := He.ga K "Guard") (C_Sitting := He.ga K "Sitting") (h_ONE := ⟨gct_of (ps := [.int 1, .int 1]) X G (c.fact 1 21 (f := .fa (.glo "ONE")) rfl rfl) (c.fact 1 20 (f := .tup "ONE" [.int 1, .int 1]) rfl rfl) (fun _ => IsPs.cons (p := .int 1) rfl (IsPs.cons (p := .int 1) rfl IsPs.nil))⟩) (cl_Guard := He.cls_ok (c.fact 2 0 (f := .fa (.cls "Guard")) rfl rfl)) (n_Guard_kept_house := He.noat_ok (c.fact 2 10 (f := .fa (.noat "Guard" "kept_house")) rfl rfl)) (n_Guard_most_paid := He.noat_ok (c.fact 2 11 (f := .fa (.noat "Guard" "most_paid")) rfl rfl)) (n_Guard_paid := He.noat_ok (c.fact 2 4 (f := .fa (.noat "Guard" "paid")) rfl rfl)) (n_Guard_price_rows := He.noat_ok (c.fact 2 12 (f := .fa (.noat "Guard" "price_rows")) rfl rfl)) (n_Guard_seat := He.noat_ok (c.fact 2 1 (f := .fa (.noat "Guard" "seat")) rfl rfl)) (n_Guard_written := He.noat_ok (c.fact 2 8 (f := .fa (.noat "Guard" "written")) rfl rfl)) (p_Sitting_lot := t_p_Sitting_lot) (k_Sitting := t_k_Sitting) (c_lot_line := t_c_lot_line)
  have S_m_Guard_go_on : MStd K (He.ga K "Guard") "go_on" "Guard.go_on" (meth 108 2) := by
    obtain ⟨_, F⟩ := c.def_ 2 6 (d := ⟨.met "Guard" "go_on", "go_on", "Guard.go_on", meth 108 2, []⟩) rfl rfl
    exact ⟨_, _, F, He.cls_ok (c.fact 2 0 (f := .fa (.cls "Guard")) rfl rfl), He.meth_ok (c.fact 2 14 (f := .fa (.meth "Guard" "go_on")) rfl rfl)⟩
  have t_m_Guard_go_on := m_Guard_go_on (P := P) (w := w) (K := K) (mg := mg) (base := base) S_m_Guard_go_on B (C_Guard := He.ga K "Guard") (C_Sitting := He.ga K "Sitting") (cl_Guard := He.cls_ok (c.fact 2 0 (f := .fa (.cls "Guard")) rfl rfl)) (n_Guard_paid := He.noat_ok (c.fact 2 4 (f := .fa (.noat "Guard" "paid")) rfl rfl)) (n_Guard_seat := He.noat_ok (c.fact 2 1 (f := .fa (.noat "Guard" "seat")) rfl rfl)) (n_Guard_written := He.noat_ok (c.fact 2 8 (f := .fa (.noat "Guard" "written")) rfl rfl)) (m_Sitting_resume := t_m_Sitting_resume)
  have S_d_Guard_resumed : CStd K (He.ga K "Guard") "resumed" "Guard.resumed" (meth 108 1) ([0].map V.int) := by
    obtain ⟨_, F⟩ := c.def_ 2 7 (d := ⟨.cm "Guard" "resumed", "resumed", "Guard.resumed", meth 108 1, [V.int 0]⟩) rfl rfl
    exact ⟨_, _, _, _, F, cread_ok (c.fact 2 15 (f := .cread "Guard") rfl rfl), cmet_ok (c.fact 2 16 (f := .cmet "Guard" "resumed") rfl rfl)⟩
  have t_d_Guard_resumed := d_Guard_resumed (P := P) (w := w) (K := K) (mg := mg) (base := base) S_d_Guard_resumed B (C_Guard := He.ga K "Guard") (C_Sitting := He.ga K "Sitting") (m_Guard_go_on := t_m_Guard_go_on) (k_Guard := t_k_Guard) (c_read_journal := t_c_read_journal)
  have S_c__law_shows : Std K mg "_law_shows" (top 152) := by
    obtain ⟨_, F⟩ := c.def_ 2 8 (d := ⟨.glo "_law_shows", "_law_shows", "_law_shows", top 152, []⟩) rfl rfl
    exact ⟨_, _, F, He.glo_ok X G (c.fact 2 17 (f := .fa (.glo "_law_shows")) rfl rfl)⟩
  have t_c__law_shows := c__law_shows (P := P) (w := w) (K := K) (mg := mg) (base := base) S_c__law_shows B (C_Guard := He.ga K "Guard") (C_Sitting := He.ga K "Sitting") (p_Guard_journal := t_p_Guard_journal) (p_Guard_lot := t_p_Guard_lot) (p_Guard_mode := t_p_Guard_mode) (p_Guard_spent := t_p_Guard_spent) (p_Guard_talk := t_p_Guard_talk) (c__law_is_frac := t_c__law_is_frac) (c__law_is_int := t_c__law_is_int) (c__law_is_ints := t_c__law_is_ints) (c__law_is_rows := t_c__law_is_rows)
  have S_c_over : Std K mg "over" (top 15) := by
    obtain ⟨_, F⟩ := c.def_ 2 9 (d := ⟨.glo "over", "over", "over", top 15, []⟩) rfl rfl
    exact ⟨_, _, F, He.glo_ok X G (c.fact 2 18 (f := .fa (.glo "over")) rfl rfl)⟩
  have t_c_over := c_over (P := P) (w := w) (K := K) (mg := mg) (base := base) S_c_over B (c_ratio := t_c_ratio)
  have S_c__law_over : Std K mg "_law_over" (top 121) := by
    obtain ⟨_, F⟩ := c.def_ 2 10 (d := ⟨.glo "_law_over", "_law_over", "_law_over", top 121, []⟩) rfl rfl
    exact ⟨_, _, F, He.glo_ok X G (c.fact 2 19 (f := .fa (.glo "_law_over")) rfl rfl)⟩
  have t_c__law_over := c__law_over (P := P) (w := w) (K := K) (mg := mg) (base := base) S_c__law_over B (c__law_f := t_c__law_f)
  have S_c_answer_told : Std K mg "answer_told" (top 105) := by
    obtain ⟨_, F⟩ := c.def_ 2 11 (d := ⟨.glo "answer_told", "answer_told", "answer_told", top 105, []⟩) rfl rfl
    exact ⟨_, _, F, He.glo_ok X G (c.fact 2 20 (f := .fa (.glo "answer_told")) rfl rfl)⟩
  have t_c_answer_told := c_answer_told (P := P) (w := w) (K := K) (mg := mg) (base := base) S_c_answer_told B (c_number_told := t_c_number_told)
  have S_q_Sitting_ask : XMStd K (He.ga K "Sitting") "ask" "Sitting.ask" (meth 106 9) [0, 0] := by
    obtain ⟨_, F⟩ := c.def_ 2 12 (d := ⟨.met "Sitting" "ask", "ask", "Sitting.ask", meth 106 9, [V.int 0, V.int 0]⟩) rfl rfl
    exact ⟨_, _, F, He.cls_ok (c.fact 1 32 (f := .fa (.cls "Sitting")) rfl rfl), He.meth_ok (c.fact 2 21 (f := .fa (.meth "Sitting" "ask")) rfl rfl)⟩
  have t_q_Sitting_ask := q_Sitting_ask (P := P) (w := w) (K := K) (mg := mg) (base := base) S_q_Sitting_ask B (C_Sitting := He.ga K "Sitting") (cl_Sitting := He.cls_ok (c.fact 1 32 (f := .fa (.cls "Sitting")) rfl rfl)) (n_Sitting_contents := He.noat_ok (c.fact 1 33 (f := .fa (.noat "Sitting" "contents")) rfl rfl)) (n_Sitting_read_state := He.noat_ok (c.fact 1 43 (f := .fa (.noat "Sitting" "read_state")) rfl rfl)) (n_Sitting_sat_house := He.noat_ok (c.fact 1 44 (f := .fa (.noat "Sitting" "sat_house")) rfl rfl)) (c_answer_told := t_c_answer_told) (c_number_told := t_c_number_told) (c_question_of := t_c_question_of)
  have S_x_Guard_cost : XMStd K (He.ga K "Guard") "cost" "Guard.cost" (meth 108 8) [] := by
    obtain ⟨_, F⟩ := c.def_ 2 13 (d := ⟨.met "Guard" "cost", "cost", "Guard.cost", meth 108 8, []⟩) rfl rfl
    exact ⟨_, _, F, He.cls_ok (c.fact 2 0 (f := .fa (.cls "Guard")) rfl rfl), He.meth_ok (c.fact 2 24 (f := .fa (.meth "Guard" "cost")) rfl rfl)⟩
  have t_x_Guard_cost := x_Guard_cost (P := P) (w := w) (K := K) (mg := mg) (base := base) S_x_Guard_cost B (C_BadQuestion := He.ga K "BadQuestion") (C_Guard := He.ga K "Guard") (C_Refused := He.ga K "Refused") (C_Sitting := He.ga K "Sitting") (cl_Guard := He.cls_ok (c.fact 2 0 (f := .fa (.cls "Guard")) rfl rfl)) (n_Guard_kept_house := He.noat_ok (c.fact 2 10 (f := .fa (.noat "Guard" "kept_house")) rfl rfl)) (n_Guard_most_paid := He.noat_ok (c.fact 2 11 (f := .fa (.noat "Guard" "most_paid")) rfl rfl)) (n_Guard_paid := He.noat_ok (c.fact 2 4 (f := .fa (.noat "Guard" "paid")) rfl rfl)) (n_Guard_price_rows := He.noat_ok (c.fact 2 12 (f := .fa (.noat "Guard" "price_rows")) rfl rfl)) (n_Guard_seat := He.noat_ok (c.fact 2 1 (f := .fa (.noat "Guard" "seat")) rfl rfl)) (er_BadQuestion := er_BadQuestion) (er_Refused := er_Refused) (p_Sitting_mode := t_p_Sitting_mode) (c_is_below := t_c_is_below) (c_over := t_c_over) (c_times := t_c_times)
  have S_x_Guard_ask : XMStd K (He.ga K "Guard") "ask" "Guard.ask" (meth 108 9) [0, 0] := by
    obtain ⟨_, F⟩ := c.def_ 2 14 (d := ⟨.met "Guard" "ask", "ask", "Guard.ask", meth 108 9, [V.int 0, V.int 0]⟩) rfl rfl
    exact ⟨_, _, F, He.cls_ok (c.fact 2 0 (f := .fa (.cls "Guard")) rfl rfl), He.meth_ok (c.fact 2 25 (f := .fa (.meth "Guard" "ask")) rfl rfl)⟩
  have t_x_Guard_ask := x_Guard_ask (P := P) (w := w) (K := K) (mg := mg) (base := base) S_x_Guard_ask B (C_BadQuestion := He.ga K "BadQuestion") (C_Guard := He.ga K "Guard") (C_Refused := He.ga K "Refused") (C_Sitting := He.ga K "Sitting") (cl_Guard := He.cls_ok (c.fact 2 0 (f := .fa (.cls "Guard")) rfl rfl)) (n_Guard_paid := He.noat_ok (c.fact 2 4 (f := .fa (.noat "Guard" "paid")) rfl rfl)) (n_Guard_seat := He.noat_ok (c.fact 2 1 (f := .fa (.noat "Guard" "seat")) rfl rfl)) (n_Guard_written := He.noat_ok (c.fact 2 8 (f := .fa (.noat "Guard" "written")) rfl rfl)) (x_Guard_cost := t_x_Guard_cost) (q_Sitting_ask := t_q_Sitting_ask) (p_Sitting_lot := t_p_Sitting_lot) (p_Sitting_mode := t_p_Sitting_mode) (c_ask_line := t_c_ask_line) (c_say_line := t_c_say_line)
  have S_c__law_call : Std K mg "_law_call" (top 148) := by
    obtain ⟨_, F⟩ := c.def_ 2 15 (d := ⟨.glo "_law_call", "_law_call", "_law_call", top 148, []⟩) rfl rfl
    exact ⟨_, _, F, He.glo_ok X G (c.fact 2 26 (f := .fa (.glo "_law_call")) rfl rfl)⟩
  have t_c__law_call := c__law_call (P := P) (w := w) (K := K) (mg := mg) (base := base) S_c__law_call B (hnd := hnd) (c__law_less := t_c__law_less) (c__law_line := t_c__law_line) (c__law_number := t_c__law_number) (c__law_over := t_c__law_over) (c__law_times := t_c__law_times)
  have S_c__law_asked : Std K mg "_law_asked" (top 150) := by
    obtain ⟨_, F⟩ := c.def_ 2 16 (d := ⟨.glo "_law_asked", "_law_asked", "_law_asked", top 150, []⟩) rfl rfl
    exact ⟨_, _, F, He.glo_ok X G (c.fact 2 34 (f := .fa (.glo "_law_asked")) rfl rfl)⟩
  have t_c__law_asked := c__law_asked (P := P) (w := w) (K := K) (mg := mg) (base := base) S_c__law_asked B (C_BadQuestion := He.ga K "BadQuestion") (C_Guard := He.ga K "Guard") (C_Refused := He.ga K "Refused") (C_ReleaseError := He.ga K "ReleaseError") (C_Sitting := He.ga K "Sitting") (g_ReleaseError := He.glo_ok X G (c.fact 2 27 (f := .fa (.glo "ReleaseError")) rfl rfl)) (er_BadQuestion := er_BadQuestion) (er_Refused := er_Refused) (em_BadQuestion_ReleaseError := of_decide_eq_true (c.fact 2 28 (f := .exm "BadQuestion" "ReleaseError" true) rfl rfl)) (em_Refused_ReleaseError := of_decide_eq_true (c.fact 2 29 (f := .exm "Refused" "ReleaseError" true) rfl rfl)) (ki_BadQuestion_BadQuestion := of_decide_eq_true (c.fact 2 30 (f := .kit "BadQuestion" "BadQuestion" true) rfl rfl)) (ki_BadQuestion_Refused := of_decide_eq_true (c.fact 2 31 (f := .kit "BadQuestion" "Refused" false) rfl rfl)) (ki_Refused_Refused := of_decide_eq_true (c.fact 2 32 (f := .kit "Refused" "Refused" true) rfl rfl)) (ki_Refused_BadQuestion := of_decide_eq_true (c.fact 2 33 (f := .kit "Refused" "BadQuestion" false) rfl rfl)) (x_Guard_ask := t_x_Guard_ask)
  have S_c__law_is_told : Std K mg "_law_is_told" (top 151) := by
    obtain ⟨_, F⟩ := c.def_ 2 17 (d := ⟨.glo "_law_is_told", "_law_is_told", "_law_is_told", top 151, []⟩) rfl rfl
    exact ⟨_, _, F, He.glo_ok X G (c.fact 2 35 (f := .fa (.glo "_law_is_told")) rfl rfl)⟩
  have t_c__law_is_told := c__law_is_told (P := P) (w := w) (K := K) (mg := mg) (base := base) S_c__law_is_told B (c__law_is_frac := t_c__law_is_frac) (c__law_is_int := t_c__law_is_int)
  have S_c__law_call_drawn : Std K mg "_law_call_drawn" (top 149) := by
    obtain ⟨_, F⟩ := c.def_ 2 18 (d := ⟨.glo "_law_call_drawn", "_law_call_drawn", "_law_call_drawn", top 149, []⟩) rfl rfl
    exact ⟨_, _, F, He.glo_ok X G (c.fact 2 36 (f := .fa (.glo "_law_call_drawn")) rfl rfl)⟩
  have t_c__law_call_drawn := c__law_call_drawn (P := P) (w := w) (K := K) (mg := mg) (base := base) S_c__law_call_drawn B (c__law_draw := t_c__law_draw) (c__law_pick := t_c__law_pick) (c__law_ticket := t_c__law_ticket)
  have S_c__law_fallen : Std K mg "_law_fallen" (top 154) := by
    obtain ⟨_, F⟩ := c.def_ 2 19 (d := ⟨.glo "_law_fallen", "_law_fallen", "_law_fallen", top 154, []⟩) rfl rfl
    exact ⟨_, _, F, He.glo_ok X G (c.fact 2 37 (f := .fa (.glo "_law_fallen")) rfl rfl)⟩
  have t_c__law_fallen := c__law_fallen (P := P) (w := w) (K := K) (mg := mg) (base := base) S_c__law_fallen B 
  have S_c__law_begins_anew : Std K mg "_law_begins_anew" (top 155) := by
    obtain ⟨_, F⟩ := c.def_ 2 20 (d := ⟨.glo "_law_begins_anew", "_law_begins_anew", "_law_begins_anew", top 155, []⟩) rfl rfl
    exact ⟨_, _, F, He.glo_ok X G (c.fact 2 38 (f := .fa (.glo "_law_begins_anew")) rfl rfl)⟩
  have t_c__law_begins_anew := c__law_begins_anew (P := P) (w := w) (K := K) (mg := mg) (base := base) S_c__law_begins_anew B (C_Guard := He.ga K "Guard") (C_Sitting := He.ga K "Sitting") (g_Guard := He.glo_ok X G (c.fact 2 2 (f := .fa (.glo "Guard")) rfl rfl)) (d_Guard_resumed := t_d_Guard_resumed) (c__law_begun := t_c__law_begun) (c__law_shows := t_c__law_shows) (c_read_journal := t_c_read_journal)
  have S_c__law_falls : Std K mg "_law_falls" (top 157) := by
    obtain ⟨_, F⟩ := c.def_ 2 21 (d := ⟨.glo "_law_falls", "_law_falls", "_law_falls", top 157, []⟩) rfl rfl
    exact ⟨_, _, F, He.glo_ok X G (c.fact 2 39 (f := .fa (.glo "_law_falls")) rfl rfl)⟩
  have t_c__law_falls := c__law_falls (P := P) (w := w) (K := K) (mg := mg) (base := base) S_c__law_falls B (C_Guard := He.ga K "Guard") (C_Sitting := He.ga K "Sitting") (g_Guard := He.glo_ok X G (c.fact 2 2 (f := .fa (.glo "Guard")) rfl rfl)) (d_Guard_resumed := t_d_Guard_resumed) (p_Guard_journal := t_p_Guard_journal) (c__law_draw := t_c__law_draw) (c__law_fallen := t_c__law_fallen) (c__law_is_read := t_c__law_is_read) (c__law_pick := t_c__law_pick) (c__law_shows := t_c__law_shows) (c__law_ticket := t_c__law_ticket)
  have S_c__law_falls_everywhere : Std K mg "_law_falls_everywhere" (top 156) := by
    obtain ⟨_, F⟩ := c.def_ 2 22 (d := ⟨.glo "_law_falls_everywhere", "_law_falls_everywhere", "_law_falls_everywhere", top 156, []⟩) rfl rfl
    exact ⟨_, _, F, He.glo_ok X G (c.fact 2 40 (f := .fa (.glo "_law_falls_everywhere")) rfl rfl)⟩
  have t_c__law_falls_everywhere := c__law_falls_everywhere (P := P) (w := w) (K := K) (mg := mg) (base := base) S_c__law_falls_everywhere B (C_BadQuestion := He.ga K "BadQuestion") (C_Guard := He.ga K "Guard") (C_Refused := He.ga K "Refused") (C_Sitting := He.ga K "Sitting") (g_Guard := He.glo_ok X G (c.fact 2 2 (f := .fa (.glo "Guard")) rfl rfl)) (d_Guard_resumed := t_d_Guard_resumed) (c__law_asked := t_c__law_asked) (c__law_call := t_c__law_call) (c__law_draw := t_c__law_draw) (c__law_fallen := t_c__law_fallen) (c__law_is_read := t_c__law_is_read) (c__law_is_told := t_c__law_is_told) (c__law_shows := t_c__law_shows) (c__law_ticket := t_c__law_ticket)
  have S_c__law_is_paid : Std K mg "_law_is_paid" (top 158) := by
    obtain ⟨_, F⟩ := c.def_ 2 23 (d := ⟨.glo "_law_is_paid", "_law_is_paid", "_law_is_paid", top 158, []⟩) rfl rfl
    exact ⟨_, _, F, He.glo_ok X G (c.fact 2 41 (f := .fa (.glo "_law_is_paid")) rfl rfl)⟩
  have t_c__law_is_paid := c__law_is_paid (P := P) (w := w) (K := K) (mg := mg) (base := base) S_c__law_is_paid B (C_Guard := He.ga K "Guard") (C_Sitting := He.ga K "Sitting") (p_Guard_spent := t_p_Guard_spent) (p_Guard_talk := t_p_Guard_talk) (c__law_less := t_c__law_less) (c__law_times := t_c__law_times)
  have S_c__law_begin : Std K mg "_law_begin" (top 110) := by
    obtain ⟨_, F⟩ := c.def_ 2 24 (d := ⟨.glo "_law_begin", "_law_begin", "_law_begin", top 110, []⟩) rfl rfl
    exact ⟨_, _, F, He.glo_ok X G (c.fact 2 42 (f := .fa (.glo "_law_begin")) rfl rfl)⟩
  have t_c__law_begin := c__law_begin (P := P) (w := w) (K := K) (mg := mg) (base := base) S_c__law_begin B 
  exact k_law (P := P) (w := w) (K := K) (mg := mg) (base := base) FL B (C_BadQuestion := He.ga K "BadQuestion") (C_Guard := He.ga K "Guard") (C_Refused := He.ga K "Refused") (C_Sitting := He.ga K "Sitting") (p_Guard_journal := t_p_Guard_journal) (k_Guard := t_k_Guard) (c__law_asked := t_c__law_asked) (c__law_begins_anew := t_c__law_begins_anew) (c__law_begun := t_c__law_begun) (c__law_budget := t_c__law_budget) (c__law_call := t_c__law_call) (c__law_call_drawn := t_c__law_call_drawn) (c__law_draw := t_c__law_draw) (c__law_falls := t_c__law_falls) (c__law_falls_everywhere := t_c__law_falls_everywhere) (c__law_is_paid := t_c__law_is_paid) (c__law_is_read := t_c__law_is_read) (c__law_is_told := t_c__law_is_told) (c__law_rates := t_c__law_rates) (c__law_shows := t_c__law_shows) (c__law_some_house := t_c__law_some_house) (c__law_state := t_c__law_state) (c__law_table := t_c__law_table) (c__law_ticket := t_c__law_ticket) (c__law_begin := t_c__law_begin)
end CR
open PySem PySem.W PySem.Calls PyProof.Rows
set_option maxRecDepth 100000 in
set_option maxHeartbeats 0 in
theorem PySem.Challenge.cw_closedratios_k76_whole_journals_cut_holds : PySem.Challenge.rw_closedratios_k76_whole_journals_cut.Holds := by
  w_on; o_law
  refine HandSHeadRun.head_imp (r := OpenLaw.row PySem.Challenge.rw_closedratios_k76_whole_journals_cut) (q := CR.Vw) (H := CR.hookL CR.chs) (ob := CR.obL CR.chs) (M := 20000) (loose := CR.looseA) (d := HandSHeadRun.topDef (OpenLaw.row PySem.Challenge.rw_closedratios_k76_whole_journals_cut).prog 159) (kwd := []) (CR.obL_eq CR.chs) CR.head_run
    (by kernel_rfl) (by kernel_rfl) (by kernel_rfl) (by rfl) (by first | assumption | decide +kernel) (by decide +kernel) ⟨rfl, rfl, rfl, rfl, rfl, by decide +kernel⟩ ?hw ?hc
  case hw => w_witness2
  case hc =>
    refine L2.walk_ofE (l := PySem.Challenge.rw_closedratios_k76_whole_journals_cut) (n := 63) (k := 9) (x := "script") (CX := L2.CX0) rfl (by decide) (by kernel_rfl) ⟨rfl, by decide, by decide⟩ ?F (fun _ _ _ _ z => z)
    intro w mg fa h Y G hmg0
    obtain ⟨K, KX, c⟩ := Y
    have hmg : mg ("law" : PySem.Str) = some (.ref fa) := by
      have e : (HandSHeadRun.topDef (OpenLaw.row PySem.Challenge.rw_closedratios_k76_whole_journals_cut).prog 159).name = ("law" : PySem.Str) := by kernel_rfl
      rw [← e]
      exact hmg0
    obtain ⟨fd, FL⟩ := c.def_ 2 25 (d := ⟨CR.Ad.glo "law", "law", "law", CR.top 159, []⟩) rfl rfl
    have e := hmg.symm.trans (He.glo_ok KX G (c.fact 2 43 (f := .fa (.glo "law")) rfl rfl))
    cases e
    have b := L2.FunD.bindsA (ps := ["script"]) FL fun _ _ _ _ _ _ us hl => match us, hl with | [_], _ => rfl
    exact ⟨K, fd, CR.spLaw K, KX, fun s v => b s [v] rfl, fun H a ns hl _ hS => ⟨a, ns, rfl, hS, hl, fun _ => rfl⟩, fun base X2 G2 => CR.law_chain X2 G2 c (by kernel_rfl) (by kernel_rfl) FL⟩

