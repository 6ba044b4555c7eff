import PyProof.Rows.All
import Wide.All
import OpenK.AllK
import Wide.FinOn
import KE.KStateDown
import HandS.ForMost
import HandS.ForExc
import HandS.Codes
import HandS.Conv
import HandS.DictComp
import HandS.More
import HandS.Zip
import HandS.Star
import HandS.Property
import HandS.ClsMeth
import HandS.ExcInit
import HandS.ExcField
import HandS.FStr
import HandS.CallRecv
import HandS.IsInst
import HandS.TupAny
import HandS.TupMul
import HandS.Lambda
import HandS.EndBits
import HandS.EndTab
import HandS.HeadHook4
import HandS.HeadWalk
import HandS.HeadNt
import HandS.Head2
import HandS.MakeKwOnly
import HandS.Defaults
import HandS.Wide
import HandS.Flow
import HandS.TryMany
import HandS.NoneIn
import HandS.StrMore
import HandS.WrittenGet
import HandS.Small
import HandS.Walk
import KE.KOpsOwn
import KE.GoesEnum
import KE.GoesMore
import PyProof.Draws
import PyProof.EnumMake
import PyProof.RulesMatchSeq
import PySem.Challenge.RW_strewfar_k70_whole_full_books
set_option Elab.async false
set_option linter.all false
set_option maxRecDepth 100000
set_option maxHeartbeats 2000000
/-! ### the text; what is looked at behind the top -/
namespace Sf
open PySem PySem.Spec PyProof.Rows L2
def topS (i : Nat) : Stmt := PySem.Challenge.pw_strewfar_k70_whole_full_books.main.body.getD i (.Pass ⟨0, 0, 0, 0⟩)
def clsS (i j : Nat) : Stmt := match topS i with
  | .ClassDef (body := b) .. => b.getD j (.Pass ⟨0, 0, 0, 0⟩)
  | s => s
/-- a property of a class -/
def propB (K : PySem.W.Frag) (C : Addr) (f : Str) : Bool :=
  He.eqO (PySem.W.findIn K (.ref C) f) (some (some (.ref (He.ma K C f)))) && (He.eqO (PySem.W.specialIn K (.ref (He.ma K C f)) "__get__") (some (some (.builtin "property.__get__"))) &&
  (decide (PySem.W.takesIn K (.ref (He.ma K C f)) = some true) && (match PySem.W.recIn K (He.ma K C f) "property" with
    | some (.ref _ :: _) => true
    | _ => false)))
/-- a staticmethod of a class -/
def statB (K : PySem.W.Frag) (C : Addr) (m : Str) : Bool :=
  PySem.W.readsIn K C (.type "type") && (He.eqO (PySem.W.specialIn K (.ref C) "__getattribute__") (some (some (.builtin "type.__getattribute__"))) && (He5.wrapB K C "staticmethod" "staticmethod.__get__" m && PySem.W.keepIn K (.ref (He5.wf K C "staticmethod" m))))
/-- an exception class whose maker is a def of its own -/
def oexA (C : Addr) : Option Obj → Bool
  | some ⟨.type t, _, .cls cd, sl⟩ => decide (t = "type") && (cd.hasDict && (!cd.hasDel && (match cd.mro with
    | .ref D :: bm => decide (D = C) && PySem.HandSPX.refsVE bm
    | _ => false) && (match sl.toList with
    | [_, _, _, _, some (.builtin n), _] => decide (n = "ValueError.__new__")
    | _ => false)))
  | _ => false
def oexB (K : PySem.W.Frag) (C : Addr) : Bool := oexA C (K.lookup C) && (He.eqO (PySem.W.findIn K (.ref C) "__setattr__") (some (some (.builtin "object.__setattr__"))) && (decide (PySem.W.subIn K (.ref C) (.type "BaseException") = some true) && (decide (PySem.W.typeIn K (.ref C) = some (.type "type")) && PySem.W.keepIn K (.ref C))))
/-- a def of the text -/
def dA (a : PySem.W.Frag → Addr) (n q : Str) (st : Stmt) (kw : List (Str × He.Dv)) : He5.DefA := ⟨a, n, q, defArgs st, defBody st, defScope st, [], kw⟩
def fas0 : List He.Fa := [(.glo "is_whole"), (.glo "origin"), (.glo "add"), (.glo "is_name"), (.glo "is_within"), (.glo "has_form"), (.glo "fault"), (.glo "check_block"), (.glo "inner_blocks"), (.glo "statements"), (.glo "names_in"), (.glo "renamed"), (.glo "is_circular"), (.glo "measured"), (.glo "measures"), (.glo "check_measure"), (.glo "product"), (.glo "term_of"), (.glo "statement_trail"), (.glo "block_trail"), (.glo "trail_of"), (.glo "part_trail"), (.glo "check_command"), (.glo "check_new"), (.glo "defined")]
def fas1 : List He.Fa := [(.glo "renamed_part"), (.glo "dropped"), (.glo "changed"), (.glo "is_number"), (.glo "tokens_of"), (.glo "parse_block"), (.glo "about_names"), (.glo "names_row"), (.glo "_law_a_box"), (.glo "_law_draw"), (.glo "_law_whole"), (.glo "_law_same"), (.glo "_law_refused"), (.glo "law"), (.glo "Parts"), (.glo "Effect"), (.glo "Trail"), (.glo "Book"), (.glo "Reader"), (.glo "Desk"), (.glo "StrewError"), (.glo "NotFound"), (.glo "NothingLeft"), (.glo "CapacityExceeded"), (.glo "InvalidName")]
def fas2 : List He.Fa := [(.glo "DuplicateName"), (.glo "Circular"), (.glo "InUse"), (.glo "UnknownName"), (.glo "TooLong"), (.glo "TooDeep"), (.glo "TooMany"), (.glo "Tangled"), (.glo "UnknownWalker"), (.glo "InvalidPlace"), (.glo "InvalidBlock"), (.glo "Overload"), (.glo "InvalidBeat"), (.glo "InvalidCount"), (.glo "WrongDimension"), (.glo "ParseError"), (.glo "InvalidCommand"), (.free "len"), (.free "all"), (.free "any"), (.free "sum"), (.free "max"), (.free "min"), (.free "sorted"), (.free "enumerate")]
def fas3 : List He.Fa := [(.free "isinstance"), (.free "int"), (.free "str"), (.free "tuple"), (.free "list"), (.free "dict"), (.free "bool"), (.free "range"), (.free "zip"), (.int "MAX_DIMENSION" 3), (.int "MAX_STATEMENTS" 60), (.int "MAX_STEP" 1000000000000), (.int "MAX_TIMES" 1000000000000000000000000000000), (.int "MAX_NAME" 8), (.int "MAX_PARTS" 12), (.int "MAX_DEPTH" 6), (.int "MAX_PUTS" 60), (.int "MAX_LOOPS" 6), (.int "MAX_DIGITS" 31), (.int "MAX_OPEN" 60), (.str "MARKS" ";{}"), (.str "FIGURES" "0123456789"), (.cls "Parts"), (.mkr "Parts"), (.noat "Parts" "ground")]
def fas4 : List He.Fa := [(.noat "Parts" "kept"), (.noat "Parts" "known"), (.cls "Effect"), (.mkr "Effect"), (.noat "Effect" "ground"), (.noat "Effect" "way"), (.noat "Effect" "rows"), (.cls "Trail"), (.mkr "Trail"), (.noat "Trail" "ground"), (.noat "Trail" "length"), (.noat "Trail" "way"), (.noat "Trail" "rows"), (.cls "Book"), (.mkr "Book"), (.noat "Book" "now"), (.noat "Book" "past"), (.noat "Book" "future"), (.noat "Book" "key"), (.cls "Reader"), (.mkr "Reader"), (.noat "Reader" "tokens"), (.noat "Reader" "size"), (.noat "Reader" "ground"), (.noat "Reader" "at")]
def fas5 : List He.Fa := [(.noat "Reader" "opened"), (.cls "Desk"), (.mkr "Desk"), (.noat "Desk" "shelf"), (.meth "Parts" "names"), (.meth "Parts" "blocks"), (.meth "Parts" "block"), (.meth "Parts" "users"), (.meth "Parts" "check_names"), (.meth "Parts" "measure"), (.meth "Parts" "check"), (.meth "Trail" "effect"), (.meth "Book" "become"), (.meth "Book" "step"), (.meth "Book" "apply"), (.meth "Book" "apply_all"), (.meth "Book" "undo"), (.meth "Book" "history"), (.meth "Book" "trail"), (.meth "Reader" "peek"), (.meth "Reader" "take"), (.meth "Reader" "read_number"), (.meth "Reader" "read_statement"), (.meth "Reader" "read_block"), (.meth "Desk" "ask")]
def fas6 : List He.Fa := [(.meth "Desk" "written"), (.meth "Desk" "answered"), (.meth "CapacityExceeded" "__init__"), (.meth "CapacityExceeded" "__init__"), (.noat "CapacityExceeded" "capacity"), (.noat "CapacityExceeded" "tag"), (.exm "CapacityExceeded" "InvalidName" false), (.exm "CapacityExceeded" "DuplicateName" false), (.exm "CapacityExceeded" "Circular" false), (.exm "CapacityExceeded" "InUse" false), (.exm "CapacityExceeded" "UnknownName" false), (.exm "CapacityExceeded" "InvalidPlace" false), (.exm "CapacityExceeded" "InvalidBlock" false), (.exm "CapacityExceeded" "CapacityExceeded" true), (.glo "LENGTHS"), (.glo "COUNTS"), (.meth "Trail" "__mul__"), (.meth "Book" "__len__")]
def fas : List (List He.Fa) := [fas0, fas1, fas2, fas3, fas4, fas5, fas6]
def fns0 (G : PySem.W.Frag → Str → Addr) : List He5.DefA := [(dA (fun K => (G K "is_whole")) "is_whole" "is_whole" (topS 26) []), (dA (fun K => (G K "origin")) "origin" "origin" (topS 28) []), (dA (fun K => (G K "add")) "add" "add" (topS 29) []), (dA (fun K => (G K "is_name")) "is_name" "is_name" (topS 38) []), (dA (fun K => (G K "is_within")) "is_within" "is_within" (topS 39) []), (dA (fun K => (G K "has_form")) "has_form" "has_form" (topS 41) []), (dA (fun K => (G K "fault")) "fault" "fault" (topS 42) []), (dA (fun K => (G K "check_block")) "check_block" "check_block" (topS 43) []), (dA (fun K => (G K "inner_blocks")) "inner_blocks" "inner_blocks" (topS 46) []), (dA (fun K => (G K "statements")) "statements" "statements" (topS 47) []), (dA (fun K => (G K "names_in")) "names_in" "names_in" (topS 48) []), (dA (fun K => (G K "renamed")) "renamed" "renamed" (topS 49) []), (dA (fun K => (G K "is_circular")) "is_circular" "is_circular" (topS 54) []), (dA (fun K => (G K "measured")) "measured" "measured" (topS 55) []), (dA (fun K => (G K "measures")) "measures" "measures" (topS 56) []), (dA (fun K => (G K "check_measure")) "check_measure" "check_measure" (topS 57) []), (dA (fun K => (He.ma K (G K "Parts") "__init__")) "__init__" "Parts.__init__" (clsS 58 0) []), (dA (fun K => (He5.wf K (G K "Parts") "property" "dimension")) "dimension" "Parts.dimension" (clsS 58 2) []), (dA (fun K => (He.ma K (G K "Parts") "names")) "names" "Parts.names" (clsS 58 3) []), (dA (fun K => (He.ma K (G K "Parts") "blocks")) "blocks" "Parts.blocks" (clsS 58 4) []), (dA (fun K => (He.ma K (G K "Parts") "block")) "block" "Parts.block" (clsS 58 5) []), (dA (fun K => (He.ma K (G K "Parts") "users")) "users" "Parts.users" (clsS 58 6) []), (dA (fun K => (He.ma K (G K "Parts") "check_names")) "check_names" "Parts.check_names" (clsS 58 7) []), (dA (fun K => (He.ma K (G K "Parts") "measure")) "measure" "Parts.measure" (clsS 58 8) []), (dA (fun K => (He.ma K (G K "Parts") "check")) "check" "Parts.check" (clsS 58 9) [])]
def fns1 (G : PySem.W.Frag → Str → Addr) : List He5.DefA := [(dA (fun K => (G K "product")) "product" "product" (topS 69) []), (dA (fun K => (G K "term_of")) "term_of" "term_of" (topS 71) []), (dA (fun K => (He.ma K (G K "Effect") "__init__")) "__init__" "Effect.__init__" (clsS 73 0) []), (dA (fun K => (He5.wf K (G K "Effect") "property" "total")) "total" "Effect.total" (clsS 73 5) []), (dA (fun K => (He.ma K (G K "Trail") "__init__")) "__init__" "Trail.__init__" (clsS 78 0) []), (dA (fun K => (He5.wf K (G K "Trail") "staticmethod" "still")) "still" "Trail.still" (clsS 78 1) []), (dA (fun K => (He5.wf K (G K "Trail") "staticmethod" "put")) "put" "Trail.put" (clsS 78 3) []), (dA (fun K => (He.ma K (G K "Trail") "__mul__")) "__mul__" "Trail.__mul__" (clsS 78 8) []), (dA (fun K => (He.ma K (G K "Trail") "effect")) "effect" "Trail.effect" (clsS 78 11) []), (dA (fun K => (G K "statement_trail")) "statement_trail" "statement_trail" (topS 79) []), (dA (fun K => (G K "block_trail")) "block_trail" "block_trail" (topS 80) []), (dA (fun K => (G K "trail_of")) "trail_of" "trail_of" (topS 81) []), (dA (fun K => (G K "part_trail")) "part_trail" "part_trail" (topS 82) [("back", .bl false)]), (dA (fun K => (G K "check_command")) "check_command" "check_command" (topS 85) []), (dA (fun K => (G K "check_new")) "check_new" "check_new" (topS 86) []), (dA (fun K => (G K "defined")) "defined" "defined" (topS 87) []), (dA (fun K => (G K "renamed_part")) "renamed_part" "renamed_part" (topS 89) []), (dA (fun K => (G K "dropped")) "dropped" "dropped" (topS 90) []), (dA (fun K => (G K "changed")) "changed" "changed" (topS 91) []), (dA (fun K => (He.ma K (G K "Book") "__init__")) "__init__" "Book.__init__" (clsS 92 0) []), (dA (fun K => (He.ma K (G K "Book") "__len__")) "__len__" "Book.__len__" (clsS 92 3) []), (dA (fun K => (He5.wf K (G K "Book") "property" "parts")) "parts" "Book.parts" (clsS 92 5) []), (dA (fun K => (He.ma K (G K "Book") "become")) "become" "Book.become" (clsS 92 6) []), (dA (fun K => (He.ma K (G K "Book") "step")) "step" "Book.step" (clsS 92 7) []), (dA (fun K => (He.ma K (G K "Book") "apply")) "apply" "Book.apply" (clsS 92 8) [])]
def fns2 (G : PySem.W.Frag → Str → Addr) : List He5.DefA := [(dA (fun K => (He.ma K (G K "Book") "apply_all")) "apply_all" "Book.apply_all" (clsS 92 9) []), (dA (fun K => (He.ma K (G K "Book") "undo")) "undo" "Book.undo" (clsS 92 14) []), (dA (fun K => (He.ma K (G K "Book") "history")) "history" "Book.history" (clsS 92 16) []), (dA (fun K => (He.ma K (G K "Book") "trail")) "trail" "Book.trail" (clsS 92 17) []), (dA (fun K => (G K "is_number")) "is_number" "is_number" (topS 114) []), (dA (fun K => (G K "tokens_of")) "tokens_of" "tokens_of" (topS 115) []), (dA (fun K => (He.ma K (G K "Reader") "__init__")) "__init__" "Reader.__init__" (clsS 116 0) []), (dA (fun K => (He.ma K (G K "Reader") "peek")) "peek" "Reader.peek" (clsS 116 1) []), (dA (fun K => (He.ma K (G K "Reader") "take")) "take" "Reader.take" (clsS 116 3) []), (dA (fun K => (He.ma K (G K "Reader") "read_number")) "read_number" "Reader.read_number" (clsS 116 4) []), (dA (fun K => (He.ma K (G K "Reader") "read_statement")) "read_statement" "Reader.read_statement" (clsS 116 6) []), (dA (fun K => (He.ma K (G K "Reader") "read_block")) "read_block" "Reader.read_block" (clsS 116 7) []), (dA (fun K => (G K "parse_block")) "parse_block" "parse_block" (topS 117) []), (dA (fun K => (G K "about_names")) "about_names" "about_names" (topS 121) []), (dA (fun K => (G K "names_row")) "names_row" "names_row" (topS 123) []), (dA (fun K => (He.ma K (G K "Desk") "__init__")) "__init__" "Desk.__init__" (clsS 124 0) [("book", .non), ("dimension", .int 2)]), (dA (fun K => (He.ma K (G K "Desk") "ask")) "ask" "Desk.ask" (clsS 124 2) []), (dA (fun K => (He.ma K (G K "Desk") "written")) "written" "Desk.written" (clsS 124 3) []), (dA (fun K => (He.ma K (G K "Desk") "answered")) "answered" "Desk.answered" (clsS 124 4) []), (dA (fun K => (G K "_law_a_box")) "_law_a_box" "_law_a_box" (topS 126) []), (dA (fun K => (G K "_law_draw")) "_law_draw" "_law_draw" (topS 127) []), (dA (fun K => (G K "_law_whole")) "_law_whole" "_law_whole" (topS 128) []), (dA (fun K => (G K "_law_same")) "_law_same" "_law_same" (topS 129) []), (dA (fun K => (G K "_law_refused")) "_law_refused" "_law_refused" (topS 130) []), (dA (fun K => (G K "law")) "law" "law" (topS 131) [])]
def fns3 (G : PySem.W.Frag → Str → Addr) : List He5.DefA := [(dA (fun K => (He.ma K (G K "CapacityExceeded") "__init__")) "__init__" "CapacityExceeded.__init__" (clsS 8 0) [])]
def fnsA (G : PySem.W.Frag → Str → Addr) : List (List He5.DefA) := [fns0 G, fns1 G]
def fnsB (G : PySem.W.Frag → Str → Addr) : List (List He5.DefA) := [fns2 G, fns3 G]
def exs (G : PySem.W.Frag → Str → Addr) : List (PySem.W.Frag → Bool) := [
  fun K => propB K (G K "Parts") "dimension",
  fun K => propB K (G K "Effect") "total",
  fun K => statB K (G K "Trail") "still",
  fun K => statB K (G K "Trail") "put",
  fun K => propB K (G K "Book") "parts",
  fun K => oexB K (G K "CapacityExceeded"),
  fun K => xfB K (G K "CapacityExceeded"),
  fun K => decide (PySem.W.exmAny K (.ref (G K "CapacityExceeded")) [(.ref (G K "TooLong")), (.ref (G K "TooDeep")), (.ref (G K "TooMany"))] = some false),
  fun K => decide (PySem.W.exmAny K (.ref (G K "CapacityExceeded")) [(.ref (G K "Tangled")), (.ref (G K "UnknownWalker"))] = some false),
  fun K => decide (PySem.W.exmAny K (.ref (G K "CapacityExceeded")) [(.ref (G K "StrewError")), (.ref (G K "NotFound")), (.ref (G K "NothingLeft"))] = some true),
  fun K => He.valsB K (G K "LENGTHS") [("define", .int 3), ("redefine", .int 3), ("rename", .int 3), ("drop", .int 2)],
  fun K => He.valsB K (G K "COUNTS") [("names", .int 1), ("undo", .int 1), ("redo", .int 1), ("drop", .int 2), ("show", .int 2), ("beats", .int 2), ("total", .int 2), ("end", .int 2), ("rename", .int 3), ("same", .int 3), ("differ", .int 3), ("amount", .int 2), ("visits", .int 2)],
  fun K => PySem.W.selfFirst K (G K "Trail")]
def tbs (G : PySem.W.Frag → Str → Addr) : List He.Tab := [(fun K => G K "LENGTHS", [("define" : Str), ("redefine" : Str), ("rename" : Str), ("drop" : Str)]), (fun K => G K "COUNTS", [("names" : Str), ("undo" : Str), ("redo" : Str), ("drop" : Str), ("show" : Str), ("beats" : Str), ("total" : Str), ("end" : Str), ("rename" : Str), ("same" : Str), ("differ" : Str), ("amount" : Str), ("visits" : Str)])]
/-! ### what is looked at -/
/-- what an object leads to -/
def leads (o : Obj) : List Addr := match o.data with
  | .func fd => He.refV fd.code ++ He.refV fd.kwdefaults
  | .cls cd => (match cd.mro with
    | [_, .type _] => [cd.ns]
    | _ => (match decide (cd.name = "CapacityExceeded") || decide (cd.name = "StrewError") with
      | true => [cd.ns]
      | false => []))
  | .dict es _ => es.toList.flatMap fun e => He.refV e.val
  | .fields vs => (match o.cls with
    | .type c => (match decide (c = "property") || decide (c = "staticmethod") with
      | true => vs.toList.flatMap He.refV
      | false => [])
    | _ => [])
  | _ => []
def nextA (g : Addr → Option Obj) (as : List Addr) : List Addr := as.flatMap fun a => match g a with
  | some o => leads o
  | none => []
def reachA (g : Addr → Option Obj) : Nat → List Addr → List Addr
  | 0, as => as
  | n + 1, as => as ++ reachA g n (nextA g as)
def lookA (g : Addr → Option Obj) : List Addr := cStatics :: reachA g 5 [mainGlobals]
abbrev lawT (K : PySem.W.Frag) : Addr × Addr := He.cT K ("law", none)
abbrev AlZ : Type := Bool × (Bool × List (List He.FnW)) × (Bool × List (List He.FnW)) × List (Option (List (Option (Str × Int))))
def emptyAt (g : Addr → Option Obj) (a : Addr) : Bool := match g a with
  | some o => He.emptyTab o
  | none => false
abbrev KZ (g : Addr → Option Obj) : PySem.W.Frag := He.frT g (lookA g)
/-! names looked up quickly -/
def sameCps : List Nat → List Nat → Bool
  | [], [] => true
  | a :: l, b :: m => (match Nat.beq a b with
    | true => sameCps l m
    | false => false)
  | _, _ => false
def keyF : Value → List Nat → Bool
  | .str s _, l => sameCps s.cps.toList l
  | _, _ => false
abbrev NsT : Type := PySem.W.Frag → Addr → Str → Option (Option Value)
def nsF : NsT := fun K a x => match K.lookup a with
  | some ⟨_, _, .dict es _, _⟩ => (match es.toList.find? fun e => keyF e.key x.cps.toList with
    | some e => some (some e.val)
    | none => if es.toList.any (·.refKey) then none else some none)
  | _ => none
def gaN (N : NsT) (K : PySem.W.Frag) (x : Str) : Addr := match N K mainGlobals x with
  | some (some (.ref a)) => a
  | _ => 0
/-- the facts, by such lookups -/
def faN (N : NsT) (G : PySem.W.Frag → Str → Addr) (K : PySem.W.Frag) (f : He.Fa) : Bool := match f with
  | .glo x => He.eqO (N K mainGlobals x) (some (some (.ref (G K x))))
  | .free x => He.eqO (N K mainGlobals x) (some none)
  | .int x i => (match N K mainGlobals x with
    | some (some (.int j _)) => decide (j = i)
    | _ => false)
  | .str x z => (match N K mainGlobals x with
    | some (some (.str y _)) => decide (y = z)
    | _ => false)
  | .cls x => PySem.W.plainGet K (G K x) Str.empty && (PySem.W.hasDictIn K (G K x) && (PySem.W.plainOver K (G K x) && He.eqO (PySem.W.findIn K (.ref (G K x)) "__setattr__") (some (some (.builtin "object.__setattr__")))))
  | .noat x y => He.eqO (PySem.W.findIn K (.ref (G K x)) y) (some none)
  | .meth x m => He.eqO (PySem.W.findIn K (.ref (G K x)) m) (some (some (.ref (He.ma K (G K x) m)))) && (PySem.W.isFn K (.ref (He.ma K (G K x) m)) && PySem.W.keepIn K (.ref (He.ma K (G K x) m)))
  | .mkr x => PySem.W.makesIn K (G K x) && (He.eqO (PySem.W.findIn K (.ref (G K x)) "__init__") (some (some (.ref (He.ma K (G K x) "__init__")))) && (PySem.W.isFn K (.ref (He.ma K (G K x) "__init__")) && PySem.W.keepIn K (.ref (G K x))))
  | .exm x y b => decide (PySem.W.exmOne K (.ref (G K x)) (.ref (G K y)) = some b)
  | _ => false
abbrev GaT : Type := PySem.W.Frag → Str → Addr
def codeF (K : PySem.W.Frag) (cd : Value) (q : Str) : Bool := match cd with
  | .ref c => (match K.lookup c with
    | some ⟨_, _, .fields vs, _⟩ => (match vs.toList with
      | _ :: .str n _ :: _ => sameCps n.cps.toList q.cps.toList
      | _ => false)
    | _ => false)
  | _ => false
def okF (K : PySem.W.Frag) (d : He5.DefA) : Bool := PySem.W.keepIn K (.ref (d.at_ K)) && (match K.lookup (d.at_ K) with
  | some ⟨_, _, .func fd, _⟩ => codeF K fd.code d.qual && (He.dflB K fd.defaults (d.dvs K) && He.kwdB K fd.kwdefaults (d.kws K))
  | _ => false)
def obsX (G : GaT) (g : Addr → Option Obj) (K : PySem.W.Frag) : Bool := ((exs G).all fun f => f K) && (PySem.W.codeHdIn K (lawT K).1 (lawT K).2 && emptyAt g (lawT K).2)
abbrev AlF : Type := Bool × List (List He.FnW)
def obsF (ok : PySem.W.Frag → He5.DefA → Bool) (ls : List (List He5.DefA)) (K : PySem.W.Frag) : AlF := (ls.all fun l => l.all fun d => ok K d, ls.map fun l => l.map fun d => He5.fnA K (d.at_ K))
def valF (ls : List (List He5.DefA)) : AlF := (true, ls.map fun l => l.map He5.DefA.val)
def obsG (N : NsT) (G : GaT) (K : PySem.W.Frag) : Bool := fas.all fun l => l.all fun f => faN N G K f
def obsD (G : GaT) (K : PySem.W.Frag) : List (Option (List (Option (Str × Int)))) := (tbs G).map fun t => He.dicW K (t.1 K)
def valD (G : GaT) (w : World) : List (Option (List (Option (Str × Int)))) := (tbs G).map fun t => some (He.keysIn w.params t.2)
def obZ (g : Addr → Option Obj) : AlZ := (obsG PySem.W.nsIn He.ga (KZ g) && obsX He.ga g (KZ g), obsF He5.DefA.ok (fnsA He.ga) (KZ g), obsF He5.DefA.ok (fnsB He.ga) (KZ g), obsD He.ga (KZ g))
def valZ (w : World) : AlZ := (true, valF (fnsA He.ga), valF (fnsB He.ga), valD He.ga w)
end Sf
/-! ### the top, run by the kernel -/
namespace Sf
open PySem PySem.W PySem.Calls PyProof.Rows HandSHeadRun
abbrev R : OpenRow := OpenLaw.row PySem.Challenge.rw_strewfar_k70_whole_full_books
abbrev qv : Program := view R.prog [131]
def names0 : List PySem.Str := [("_wall" : PySem.Str), ("__name__" : PySem.Str), ("StrewError" : PySem.Str), ("NotFound" : PySem.Str), ("InvalidPlace" : PySem.Str), ("InvalidBlock" : PySem.Str), ("InvalidName" : PySem.Str), ("DuplicateName" : PySem.Str), ("CapacityExceeded" : PySem.Str), ("Circular" : PySem.Str), ("InUse" : PySem.Str), ("TooLong" : PySem.Str), ("TooDeep" : PySem.Str), ("TooMany" : PySem.Str), ("Overload" : PySem.Str), ("Tangled" : PySem.Str), ("InvalidBeat" : PySem.Str), ("InvalidCount" : PySem.Str), ("WrongDimension" : PySem.Str), ("ParseError" : PySem.Str), ("InvalidCommand" : PySem.Str), ("UnknownName" : PySem.Str), ("UnknownWalker" : PySem.Str), ("NothingLeft" : PySem.Str), ("MAX_DIMENSION" : PySem.Str), ("is_whole" : PySem.Str), ("is_place" : PySem.Str), ("origin" : PySem.Str), ("add" : PySem.Str), ("scale" : PySem.Str), ("opposite" : PySem.Str), ("is_forward" : PySem.Str), ("MAX_STATEMENTS" : PySem.Str), ("MAX_STEP" : PySem.Str), ("MAX_TIMES" : PySem.Str)]
def names1 : List PySem.Str := [("MAX_NAME" : PySem.Str), ("is_name" : PySem.Str), ("is_within" : PySem.Str), ("is_vector" : PySem.Str), ("has_form" : PySem.Str), ("fault" : PySem.Str), ("check_block" : PySem.Str), ("reversed_statement" : PySem.Str), ("reverse" : PySem.Str), ("inner_blocks" : PySem.Str), ("statements" : PySem.Str), ("names_in" : PySem.Str), ("renamed" : PySem.Str), ("MAX_PARTS" : PySem.Str), ("MAX_DEPTH" : PySem.Str), ("MAX_PUTS" : PySem.Str), ("is_circular" : PySem.Str), ("measured" : PySem.Str), ("measures" : PySem.Str), ("check_measure" : PySem.Str), ("Parts" : PySem.Str), ("unit" : PySem.Str), ("least_column" : PySem.Str), ("lessened" : PySem.Str), ("cleared" : PySem.Str), ("echelon" : PySem.Str), ("combination_of" : PySem.Str), ("reach" : PySem.Str), ("solutions" : PySem.Str), ("product" : PySem.Str), ("forward_loop" : PySem.Str), ("term_of" : PySem.Str), ("moved_terms" : PySem.Str), ("Effect" : PySem.Str), ("MAX_LOOPS" : PySem.Str)]
def names2 : List PySem.Str := [("reversed_strewing" : PySem.Str), ("runs_at" : PySem.Str), ("Trail" : PySem.Str), ("statement_trail" : PySem.Str), ("block_trail" : PySem.Str), ("trail_of" : PySem.Str), ("part_trail" : PySem.Str), ("LENGTHS" : PySem.Str), ("check_command" : PySem.Str), ("check_new" : PySem.Str), ("defined" : PySem.Str), ("redefined" : PySem.Str), ("renamed_part" : PySem.Str), ("dropped" : PySem.Str), ("changed" : PySem.Str), ("Book" : PySem.Str), ("load_of" : PySem.Str), ("less_moved" : PySem.Str), ("term_marks" : PySem.Str), ("multiplied" : PySem.Str), ("reduced" : PySem.Str), ("MAX_TERMS" : PySem.Str), ("MAX_LOAD" : PySem.Str), ("MAX_MODULUS" : PySem.Str), ("common_load" : PySem.Str), ("ends_of" : PySem.Str), ("difference" : PySem.Str), ("same" : PySem.Str), ("MARKS" : PySem.Str), ("MAX_DIGITS" : PySem.Str), ("MAX_OPEN" : PySem.Str), ("FIGURES" : PySem.Str), ("format_statement" : PySem.Str), ("format_block" : PySem.Str), ("is_number" : PySem.Str)]
def names3 : List PySem.Str := [("tokens_of" : PySem.Str), ("Reader" : PySem.Str), ("parse_block" : PySem.Str), ("COUNTS" : PySem.Str), ("row_of" : PySem.Str), ("about_names" : PySem.Str), ("about_place" : PySem.Str), ("names_row" : PySem.Str), ("Desk" : PySem.Str), ("_law_a_box" : PySem.Str), ("_law_draw" : PySem.Str), ("_law_whole" : PySem.Str), ("_law_same" : PySem.Str), ("_law_refused" : PySem.Str)]
def names : List PySem.Str := names0 ++ names1 ++ names2 ++ names3
noncomputable abbrev endZ (w : World) (os : OsState) : Option SharedT := endF (stepQ (denQ tabQ) R.prog w) 13500 R.prog w os
def EqA (w : World) : Prop := ∀ os : OsState, (endZ w os).map (fun s => (looksF R.prog (boot_heap w.params) s.abs, obsX (gaN nsF) (getT s) (KZ (getT s)))) = some (true, true)
def EqB (w : World) : Prop := ∀ os : OsState, (endZ w os).map (fun s => (seenQ qv names (importedModules R.prog.main.body) (fun s => xlAt qv [] s && recOk R.toRowW.records s) s.abs, obsF okF (fnsB (gaN nsF)) (KZ (getT s)))) = some (openGood qv names, valF (fnsB (gaN nsF)))
def EqC (w : World) : Prop := ∀ os : OsState, (endZ w os).map (fun s => (obsG nsF (gaN nsF) (KZ (getT s)), obsF okF (fnsA (gaN nsF)) (KZ (getT s)), obsD (gaN nsF) (KZ (getT s)))) = some (true, valF (fnsA (gaN nsF)), valD (gaN nsF) w)
set_option maxHeartbeats 0 in
theorem runA0 (w : World) : EqA (w.withFollow "special-get-raises" false) := by
  intro os
  kernel_rfl
set_option maxHeartbeats 0 in
theorem runB0 (w : World) : EqB (w.withFollow "special-get-raises" false) := by
  intro os
  kernel_rfl
set_option maxHeartbeats 0 in
theorem runC0 (w : World) : EqC (w.withFollow "special-get-raises" false) := by
  intro os
  kernel_rfl
set_option maxHeartbeats 0 in
theorem runA1 (w : World) : EqA (w.withFollow "special-get-raises" true) := by
  intro os
  kernel_rfl
set_option maxHeartbeats 0 in
theorem runB1 (w : World) : EqB (w.withFollow "special-get-raises" true) := by
  intro os
  kernel_rfl
set_option maxHeartbeats 0 in
theorem runC1 (w : World) : EqC (w.withFollow "special-get-raises" true) := by
  intro os
  kernel_rfl
end Sf
/-! ### own rule: match over a tuple of three, the first a written text -/
namespace Sf
open PySem PySem.Spec PyProof.Rows L2
structure PM (X : Cx) (cs : List MatchCase) (t : V → TS) : Prop where
  run : ∀ (pins : List (Addr × Obj)) (s : Shared) (σ : L2.St) (H : Hp) (v : V) (u : Value) (D : Ends) (first : Bool), Inv X pins σ H s → RelV v u → t v D σ H →
    wpAny (model X.prog X.w) X.A (matchCases cs X.env u first) (SP X pins D) X.xe s
section
variable {X : Cx}
theorem pm_nil : PM X [] (fun _ D σ H => D.nx σ H) :=
  ⟨fun pins s σ H v u D first I _ h => wpAny_matchCases_nil ⟨σ, H, I, h⟩⟩
/-- case [z, name i, name j]: body -/
def tMc (K : PySem.W.Frag) (z : Str) (i j : Nat) (tb : TS) (tr : V → TS) : V → TS := fun v D σ H =>
  ∃ a xs, v = .ref a ∧ SqT K H a xs ∧ (if xs.length = 3 then ∃ x y y2, xs = [.str x, y, y2] ∧ (if x = z then tb D ((σ.set i (some y)).set j (some y2)) H else tr v D σ H) else tr v D σ H)
theorem pm_seq3 {z n1 n2 : Str} {i j k : Nat} {body : List Stmt} {rest : List MatchCase} {tb : TS} {tr : V → TS} {p1 p2 p3 p4 p5 : Pos} (hc : X.calm = true) (hN : X.N.Nodup)
    (hi : X.N[i]? = some n1) (hj : X.N[j]? = some n2) (l1 : X.env.scope.names.lookup n1 = some .local) (l2 : X.env.scope.names.lookup n2 = some .local)
    (hb : PSs X body tb) (hr : PM X rest tr) :
    PM X (⟨.MatchSequence [.MatchValue (.Constant (.str z) k p1) p2, .MatchAs none (some n1) p3, .MatchAs none (some n2) p4] p5, none, body⟩ :: rest) (tMc X.K z i j tb tr) := by
  refine ⟨fun pins s σ H v u D first I r h => ?_⟩
  obtain ⟨a, xs, rfl, hq, h⟩ := h
  cases r
  obtain ⟨its, rv, ht, hz⟩ := I.tuple hq
  have hl := rv.length
  have big : sizeLine < 2 ^ 63 := by rw [sizeLine_eq]; decide
  have fit : (its.toArray.size : Int) < 2 ^ 63 := by
    have q : its.toArray.size = its.length := by simp
    rw [q]; omega
  have tk : ∀ {t : Nat}, Inv X pins σ H { s with toks := t } := fun {t} => I.kept (t' := t) fun b o e => e
  refine wpAny_matchCases_cons ?_
  by_cases h3 : xs.length = 3
  · rw [if_pos h3] at h
    obtain ⟨x, y, y2, rfl, h⟩ := h
    obtain ⟨u0, us1, e1, r0, t1⟩ : ∃ u0 us, its = u0 :: us ∧ RelV (.str x) u0 ∧ Vals [y, y2] us := by cases rv with | cons a b => exact ⟨_, _, rfl, a, b⟩
    subst e1
    obtain ⟨u1, us2, e2, r1, t2⟩ : ∃ u0 us, us1 = u0 :: us ∧ RelV y u0 ∧ Vals [y2] us := by cases t1 with | cons a b => exact ⟨_, _, rfl, a, b⟩
    subst e2
    obtain ⟨u2, us3, e3, r2, t3⟩ : ∃ u0 us, us2 = u0 :: us ∧ RelV y2 u0 ∧ Vals [] us := by cases t2 with | cons a b => exact ⟨_, _, rfl, a, b⟩
    subst e3
    cases t3
    obtain ⟨tx, rfl⟩ := r0
    refine matchSeq_tuple_hit ht fit rfl (unpackItems_tuple (items := #[.str x tx, u1, u2]) (I.ok.hd hc) ht fun h' he => ?_)
    have I2 : ∀ {t : Nat}, Inv X pins σ H { s with heap := h', toks := t } := fun {t} => I.kept (t' := t) fun b o e => he b o (Nat.ne_of_lt (Heap.lt_size e)) e
    refine wpAny_matchEach_cons (wpAny_matchPattern_Value ?_)
    refine thn ((pe_str (X := X) (x := z) (j := k) (pos := p1)).run pins _ σ H (fun v H1 => v = .str z ∧ H1 = H) I2 ⟨rfl, rfl⟩) fun w s1 ⟨v1, H1, I1, rw1, q1⟩ => ?_
    obtain ⟨rfl, rfl⟩ := q1
    refine thn (op_eq (X := X) pins s1 σ _ (.str x) (.str z) _ _ (fun v H' => v = .bl (decide (x = z)) ∧ H' = _) I1 ⟨_, rfl⟩ rw1 ⟨rfl, by simp, rfl⟩) fun c s2 ⟨v2, H2, I3, rc, q2⟩ => ?_
    obtain ⟨rfl, rfl⟩ := q2
    cases rc
    refine wpAny_truthy_bool ?_
    by_cases hx : x = z
    · rw [if_pos hx] at h
      rw [decide_eq_true hx, if_pos rfl]
      refine wpAny_matchEach_cons (wpAny_matchPattern_Capture (wpAny_matchEach_cons (wpAny_matchPattern_Capture (wpAny_matchEach_nil ?_))))
      show wpAny _ _ (assignInOrder [fun v => bindName X.env n1 v, fun v => bindName X.env n2 v] [u1, u2]) _ _ _
      refine assignInOrder_cons (wpAny_bindName (store_ok I3 hN hi (.inl l1) r1 (fun s3 I4 => ?_) (.inr l1)))
      refine assignInOrder_cons (wpAny_bindName (store_ok I4 hN hj (.inl l2) r2 (fun s4 I5 => assignInOrder_nil ?_) (.inr l2)))
      exact hb.run pins s4 _ _ D I5 h
    · rw [if_neg hx] at h
      rw [decide_eq_false hx, if_neg Bool.false_ne_true]
      exact hr.run pins s2 σ _ (.ref a) _ D false I3 rfl h
  · rw [if_neg h3] at h
    refine matchSeq_tuple_miss ht fit (fun q => h3 ?_) (hr.run pins _ σ H (.ref a) _ D false tk rfl h)
    have q2 : its.toArray.size = 3 := q
    have q3 : its.toArray.size = its.length := by simp
    omega
def tMatch (te : TE) (t : V → TS) : TS := fun D σ H => te σ H fun v H1 => t v D σ H1
theorem ps_match {e : Expr} {cs : List MatchCase} {te : TE} {t : V → TS} {pos : Pos} (he : PE X e te) (h : PM X cs t) : PS X (.Match e cs pos) (tMatch te t) := by
  refine ⟨fun pins s σ H D I hw => ?_⟩
  refine wpAny_Match (thn (he.run pins s σ H _ I hw) fun u s1 ⟨v, H1, I1, r1, q1⟩ => ?_)
  exact h.run pins s1 σ H1 v u D true I1 r1 q1
end
end Sf
/-! ### the text -/
namespace Sf
open PySem PySem.Spec PyProof.Rows L2
/-- a def as it stands behind the top, without defaults but keyword-only ones -/
def Fn (K : PySem.W.Frag) (x qual : Str) (st : Stmt) (kws : List (Str × V)) (f : Addr) : Prop := ∃ fd, FunD K x qual (defArgs st) (defBody st) (defScope st) [] kws f fd
section
variable {P : Program} {w : World} {K : PySem.W.Frag} {mg : Str → Option Value} {base : Heap}
/-- the promise of a def by its body, called by positional values -/
theorem mkR {x qual : Str} {st : Stmt} {f : Addr} {N ps : List Str} {k : Nat} {sp : Sp} (F : Fn K x qual st [] f) (S : FnScope N ps (defScope st))
    (hb : ∀ (kV doc pm : Value) (an : Option Addr) (cdv ct : Value) (us : List Value), us.length = ps.length → bindArgs (PySem.W.fnOf x qual (defArgs st) (defBody st) (defScope st) .none kV doc pm an cdv ct) ⟨us, []⟩ = pure (ps.zip us))
    (len : ∀ vs H Q E, sp vs H Q E → vs.length = ps.length)
    (hbody : ∀ (cdv : Value) (A : Around) (outer : List Env) (s : Shared) (H : Hp) (vs : List V) (Q : VK) (E : XK), Room k (A.deeper (envOfC qual (defScope st) s.heap.objs.size f cdv)) → sp vs H Q E →
      ∃ t, PSs (cxOf (L2.CX P w) P w K mg base N qual (defScope st) f cdv A outer s H E) (defBody st) t ∧ t { nx := fun _ H' => Q .non H', rt := Q } (start N vs) H) : FnR P w K mg base (L2.CX P w) (k + 1) f sp := by
  obtain ⟨fd, F⟩ := F
  have G : FnOk P w K mg base (L2.CX P w) (k + 1) f fd ps sp := F.ok S len hbody
  exact (G.raw (F.bindsN hb) .nil).imp fun vs H Q E h => by rw [List.append_nil]; exact h
theorem Fn.keep {x qual : Str} {st : Stmt} {kws : List (Str × V)} {f : Addr} (F : Fn K x qual st kws f) : PySem.W.keepIn K (.ref f) = true := F.elim fun _ h => h.kp
end
/-! ### calls by such promises -/
section
variable {X : Cx} {k j : Nat} {C f : Addr} {x m : Str} {sp : Sp} {E : XK} {p pos apos : Pos} {e o : Expr} {es : List Expr} {ta : TE} {t : TA}
/-- f(e, ..) -/
def tC1 (sp : Sp) (E : XK) (t : TA) : TE := fun σ H Q => t σ H fun vs H1 => sp vs H1 Q E
theorem pe_f (F : FnR X.prog X.w X.K X.mg X.base (L2.CX X.prog X.w) k f sp) (hm : X.mg x = some (.ref f)) (hk : PySem.W.keepIn X.K (.ref f) = true) (hr : Room j X.A) (hx : Passes (L2.CX X.prog X.w) X E) (ha : PA X (e :: es) t)
    (hj : k ≤ j := by decide) (hg : Gl X x := by rfl) (hd : (x == ("__debug__" : Str)) = false := by decide)
    (he : starEach (e :: es) X.env = (false, eval e X.env) :: starEach es X.env := by rfl) (hpl : (backTo pos (starEach es X.env)).any (·.1) = false := by rfl) :
    PE X (.Call (.Name x p) (e :: es) [] pos) (tC1 sp E t) := by
  refine ⟨fun pins s σ H Q I h => wpAny_Call_Name_kw (ld_glob I hg hm (PySem.W.callWith_K (h₀ := X.base) I.ok.mod.kin hk (thn (ha.run pos pins s σ H _ I h) fun us s1 z => ?_) he hpl) hd)⟩
  obtain ⟨vs, H1, I1, r, q⟩ := z
  exact ⟨I1.kIn, wpAny_call (run_fnR F (hr.mono hj) hx I1 r q)⟩
/-- o.m(e, ..), o.m(): the class is known -/
def tMth (C : Addr) (m : Str) (sp : Sp) (E : XK) (ta : TE) (t : TA) : TE := fun σ H Q => ta σ H fun x H1 => ∃ a dx fs, x = .ref a ∧ H1 a = some (.ins C dx fs) ∧ fs.lookup m = none ∧ t σ H1 fun vs H2 => sp (x :: vs) H2 Q E
theorem pe_m {pl : Sem Bool} (he : PE X o ta) (F : FnR X.prog X.w X.K X.mg X.base (L2.CX X.prog X.w) k f sp) (c : Cls X.K C) (hm : Meth X.K C m f) (hr : Room j X.A) (hx : Passes (L2.CX X.prog X.w) X E) (ha : PA X (e :: es) t)
    (hj : k ≤ j := by decide) (hst : starEach (e :: es) X.env = (false, eval e X.env) :: starEach es X.env := by rfl) (hpl : (backTo pos (starEach es X.env)).any (·.1) = false := by rfl)
    (ht : eval (.Call (.Attribute o m apos) (e :: es) [] pos) X.env = (do
      let ov ← eval o X.env; standAt apos.atName
      let (f, first) ← holding [ov] (getMethod ov m pl); callWith pos f first (backTo pos (starEach (e :: es) X.env)) (backToKw pos (keywordEach [] X.env))) := by rfl) :
    PE X (.Call (.Attribute o m apos) (e :: es) [] pos) (tMth C m sp E ta t) := by
  refine ⟨fun pins s σ H Q I h => PySem.W.methodCall_KW (pl := pl) (thn (he.run pins s σ H _ I h) fun u s1 z => ?_) ht⟩
  obtain ⟨x, H1, I1, rx, a, dx, fs, ex, ea, l, q⟩ := z
  subst ex
  obtain rfl : u = Value.ref a := rx
  refine getmeth_ok I1 ea c hm l (PySem.W.callWith_K (first := [.ref a]) (h₀ := X.base) I.ok.mod.kin hm.kp (thn (ha.run pos pins s1 σ H1 _ I1 q) fun us s2 z2 => ?_) hst hpl)
  obtain ⟨vs, H2, I2, r, q2⟩ := z2
  exact ⟨I2.kIn, wpAny_call (run_fnR (us := .ref a :: us) (vs := .ref a :: vs) F (hr.mono hj) hx I2 (.cons rfl r) q2)⟩
theorem pe_m0 {pl : Sem Bool} (he : PE X o ta) (F : FnR X.prog X.w X.K X.mg X.base (L2.CX X.prog X.w) k f sp) (c : Cls X.K C) (hm : Meth X.K C m f) (hr : Room j X.A) (hx : Passes (L2.CX X.prog X.w) X E)
    (hj : k ≤ j := by decide)
    (ht : eval (.Call (.Attribute o m apos) [] [] pos) X.env = (do
      let ov ← eval o X.env; standAt apos.atName
      let (f, first) ← holding [ov] (getMethod ov m pl); callWith pos f first (backTo pos (starEach [] X.env)) (backToKw pos (keywordEach [] X.env))) := by rfl) :
    PE X (.Call (.Attribute o m apos) [] [] pos) (tMth C m sp E ta tNil) := by
  refine ⟨fun pins s σ H Q I h => PySem.W.methodCall_KW (pl := pl) (thn (he.run pins s σ H _ I h) fun u s1 z => ?_) ht⟩
  obtain ⟨x, H1, I1, rx, a, dx, fs, ex, ea, l, q⟩ := z
  subst ex
  obtain rfl : u = Value.ref a := rx
  exact getmeth_ok I1 ea c hm l (PySem.W.callWith_K0 (first := [.ref a]) I1.kIn hm.kp (wpAny_call (run_fnR (us := [.ref a]) (vs := [.ref a]) F (hr.mono hj) hx I1 (.cons rfl .nil) q)))
/-- C.m(e, ..), m a staticmethod of the class at C -/
structure Stat (K : PySem.W.Frag) (C : Addr) (m : Str) (f : Addr) : Prop where
  rd : ClX.CRead K C (.type "type")
  at_ : ∃ p rest, PySem.W.findCls K (.ref C) (.type "type") m = some (.get (.builtin "staticmethod.__get__") (.ref p) .none (.ref C)) ∧ PySem.W.recIn K p "staticmethod" = some (.ref f :: rest)
  kp : PySem.W.keepIn K (.ref f) = true
def tStat (C : Addr) (sp : Sp) (E : XK) (ta : TE) (t : TA) : TE := fun σ H Q => ta σ H fun x H1 => x = .ref C ∧ t σ H1 fun vs H2 => sp vs H2 Q E
theorem pe_st {pl : Sem Bool} (he : PE X o ta) (F : FnR X.prog X.w X.K X.mg X.base (L2.CX X.prog X.w) k f sp) (c : Stat X.K C m f) (hr : Room j X.A) (hx : Passes (L2.CX X.prog X.w) X E) (ha : PA X (e :: es) t)
    (hj : k ≤ j := by decide) (hst : starEach (e :: es) X.env = (false, eval e X.env) :: starEach es X.env := by rfl) (hpl : (backTo pos (starEach es X.env)).any (·.1) = false := by rfl)
    (ht : eval (.Call (.Attribute o m apos) (e :: es) [] pos) X.env = (do
      let ov ← eval o X.env; standAt apos.atName
      let (f, first) ← holding [ov] (getMethod ov m pl); callWith pos f first (backTo pos (starEach (e :: es) X.env)) (backToKw pos (keywordEach [] X.env))) := by rfl) :
    PE X (.Call (.Attribute o m apos) (e :: es) [] pos) (tStat C sp E ta t) := by
  refine ⟨fun pins s σ H Q I h => PySem.W.methodCall_KW (pl := pl) (thn (he.run pins s σ H _ I h) fun u s1 z => ?_) ht⟩
  obtain ⟨x, H1, I1, rx, ex, q⟩ := z
  subst ex
  obtain rfl : u = Value.ref C := rx
  obtain ⟨p, rest, h1, h2⟩ := c.at_
  refine PySem.W.method_cls I1.kIn c.rd.ga (PySem.W.cls_bind I1.kIn c.rd.rd h1 (wpAny_call (PySem.W.sm_get (s := { s1 with toks := s1.toks + 1 }) I1.kIn h2 (PySem.W.handed_on rfl ?_))))
  have I2 : Inv X pins σ H1 { s1 with toks := s1.toks + 1 } := I1.tok _
  refine PySem.W.callWith_K (first := []) (h₀ := X.base) I.ok.mod.kin c.kp (thn (ha.run pos pins _ σ H1 _ I2 q) fun us s2 z2 => ?_) hst hpl
  obtain ⟨vs, H2, I3, r, q2⟩ := z2
  exact ⟨I3.kIn, wpAny_call (run_fnR (us := us) (vs := vs) F (hr.mono hj) hx I3 r q2)⟩
/-- o.f, the class known -/
def tFd (C : Addr) (ta : TE) (f : Str) : TE := fun σ H Q => ta σ H fun x H1 => ∃ a dx fs v, x = .ref a ∧ H1 a = some (.ins C dx fs) ∧ fs.lookup f = some v ∧ Q v H1
theorem pe_fd {g : Str} (c : Cls X.K C) (n : NoAttr X.K C g) (he : PE X e ta) (hb : attributeBase e g X.env (eval e X.env) = eval e X.env := by rfl) : PE X (.Attribute e g pos) (tFd C ta g) := by
  refine ⟨fun pins s σ H Q I h => attr_of hb (thn (he.run pins s σ H _ I h) fun u s1 z => ?_)⟩
  obtain ⟨x, H1, I1, rx, a, dx, fs, v, ex, ea, l, q⟩ := z
  subst ex
  obtain rfl : u = Value.ref a := rx
  exact getattr_ok I1 ea c n l fun u' s2 I2 ru => ⟨v, H1, I2, ru, q⟩
/-- o.f = v, the class known -/
def sFd (C : Addr) (ta tv : TE) (f : Str) : TS := fun D σ H => tv σ H fun y H1 => ta σ H1 fun x H2 => ∃ a dx fs, x = .ref a ∧ H2 a = some (.ins C dx fs) ∧ fs.length < 1000 ∧ D.nx σ (upd H2 a (.ins C dx (putF f y fs)))
theorem ps_fd {g : Str} {v : Expr} {tv : TE} {pos' : Pos} (c : Cls X.K C) (n : NoAttr X.K C g) (ho : PE X o ta) (hv : PE X v tv) (hs : swapsWith v (some (.Attribute o g pos')) pos.line X.env = pure false := by rfl) :
    PS X (.Assign [.Attribute o g pos'] v pos) (sFd C ta tv g) := by
  refine ⟨fun pins s σ H D I h => plainObj_wpAny_Assign_Attribute (thn (hv.run pins s σ H _ I h) fun u s1 z => ?_) hs⟩
  obtain ⟨y, H1, I1, ry, q⟩ := z
  refine thn (ho.run pins s1 σ H1 _ I1 q) fun ov s2 z2 => ?_
  obtain ⟨x, H2, I2, rx, a, dx, fs, ex, ea, l, q2⟩ := z2
  subst ex
  obtain rfl : ov = Value.ref a := rx
  exact setattr_ok I2 ea c n l ry fun s3 I3 => ⟨σ, _, I3, q2⟩
/-- o.f, a property whose getter is at g -/
def tPr (C : Addr) (sp : Sp) (E : XK) (ta : TE) : TE := fun σ H Q => ta σ H fun x H1 => ∃ a dx fs, x = .ref a ∧ H1 a = some (.ins C dx fs) ∧ sp [.ref a] H1 Q E
theorem pe_pr {g : Str} {pr : Addr} (F : FnR X.prog X.w X.K X.mg X.base (L2.CX X.prog X.w) k f sp) (c : Cls X.K C) (hp : PropOf X.K C g pr f) (hr : Room j X.A) (he : PE X e ta) (hj : k + 1 ≤ j := by decide)
    (hab : attributeBase e g X.env (eval e X.env) = eval e X.env := by rfl) : PE X (.Attribute e g pos) (tPr C sp E0 ta) := by
  refine ⟨fun pins s σ H Q I h => attr_of hab (thn (he.run pins s σ H _ I h) fun u s1 z => ?_)⟩
  obtain ⟨x, H1, I1, rx, a, dx, fs, ex, ea, q⟩ := z
  subst ex
  obtain rfl : u = Value.ref a := rx
  obtain ⟨mA, O, _⟩ := ins_get I1.hok ea
  obtain ⟨od, J, _⟩ := O.look
  obtain ⟨rest, hrec⟩ := hp.rec_
  have I2 := I1.tok (s1.toks + 1)
  have hc : (PySem.W.clsIn X.K C).isSome = true := by
    obtain ⟨cd, h1, _⟩ := PySem.W.any_some c.hd
    rw [h1] <;> rfl
  have pg := PySem.W.plainGet_of (c.get g)
  refine PySem.W.get_bind I1.kIn J pg.1 (PySem.W.findObj_data hc hp.at_ hp.get hp.tak) pg.2 (wpAny_call (PySem.W.prop_get (s := { s1 with toks := s1.toks + 1 }) I1.kIn hrec ?_))
  refine codeAny_mono (F X.A.in1 X.stack _ H1 [.ref a] [.ref a] Q E0 (hr.mono hj).in1 I2.env0.in1 (.cons rfl .nil) q) fun r s' hq => ?_
  cases r with
  | error er => exact absurd (passL (X := X) pins σ H1 _ er s' I2 hq) (fun _ => by
      obtain ⟨_, _, _, _, _, _, _, _, _, _, _, _, z⟩ := hq
      exact z)
  | ok fl =>
    cases fl with
    | ret u =>
      obtain ⟨v, H', I3, rv, q3⟩ := I2.after hq
      show wpAny _ _ (handedOut u) _ _ _
      rw [PySem.W.handedOut_of (handed_of rv)]
      exact wpAny_pure ⟨v, H', I3, rv, q3⟩
    | next => exact False.elim hq
    | brk => exact False.elim hq
    | cont => exact False.elim hq
end
end Sf
/-! ### readings, step by step -/
namespace Sf
open PySem PySem.Spec PyProof.Rows L2
theorem rd :
    (∀ i σ H Q, tVar i σ H Q ↔ ∃ v, σ[i]? = some (some v) ∧ Q v H) ∧
    (∀ v σ H Q, tC v σ H Q ↔ Q v H) ∧
    (∀ r ta tb σ H Q, tOp r ta tb σ H Q ↔ ta σ H fun x H1 => tb σ H1 fun y H2 => r x y H2 Q) ∧
    (∀ r ta σ H Q, tUn r ta σ H Q ↔ ta σ H fun x H1 => r x H1 Q) ∧
    (∀ g x y H Q, rI0 g x y H Q ↔ ∃ i j, x = .int i ∧ y = .int j ∧ Q (g i j) H) ∧
    (∀ C g x y H Q, rI C g x y H Q ↔ ∃ i j, x = .int i ∧ y = .int j ∧ C i j ∧ Q (g i j) H) ∧
    (∀ x y H Q, rEq x y H Q ↔ scal x y = true ∧ Q (.bl (decide (x = y))) H) ∧
    (∀ x y H Q, rNe x y H Q ↔ scal x y = true ∧ Q (.bl (!decide (x = y))) H) ∧
    (∀ r r' ta tb tc σ H Q, tChain r r' ta tb tc σ H Q ↔ ta σ H fun x H1 => tb σ H1 fun y H2 => r x y H2 fun z H3 => ∃ k, z = .bl k ∧ (if k = true then tc σ H3 fun w' H4 => r' y w' H4 Q else Q (.bl false) H3)) ∧
    (∀ t σ H Q, tTest t σ H Q ↔ t σ H fun x H' => ∃ k, x = .bl k ∧ Q k H') ∧
    (∀ t σ H Q, tB t σ H Q ↔ t σ H fun x H1 => ∃ c, x = .bl c ∧ Q c H1) ∧
    (∀ t u σ H Q, tAnd t u σ H Q ↔ t σ H fun c H1 => if c = true then u σ H1 Q else Q false H1) ∧
    (∀ t u σ H Q, tOr t u σ H Q ↔ t σ H fun c H1 => if c = true then Q true H1 else u σ H1 Q) ∧
    (∀ t σ H Q, tNot t σ H Q ↔ t σ H fun c H1 => Q (!c) H1) ∧
    (∀ ta tb σ H Q, tAndV ta tb σ H Q ↔ ta σ H fun x H1 => ∃ c, x = .bl c ∧ if c = true then tb σ H1 Q else Q (.bl false) H1) ∧
    (∀ ta tb σ H Q, tOrV ta tb σ H Q ↔ ta σ H fun x H1 => ∃ c, x = .bl c ∧ if c = true then Q (.bl true) H1 else tb σ H1 Q) ∧
    (∀ ta σ H Q, tNotV ta σ H Q ↔ ta σ H fun x H1 => ∃ c, x = .bl c ∧ Q (.bl (!c)) H1) ∧
    (∀ t ta tb σ H Q, tIf t ta tb σ H Q ↔ t σ H fun c H1 => if c = true then ta σ H1 Q else tb σ H1 Q) ∧
    (∀ σ H Q, tNil σ H Q ↔ Q [] H) ∧
    (∀ ta tr σ H Q, tCons ta tr σ H Q ↔ ta σ H fun x H1 => tr σ H1 fun xs H2 => Q (x :: xs) H2) ∧
    (∀ t σ H Q, tTup t σ H Q ↔ t σ H fun xs H1 => xs.length ≤ sizeLine ∧ ∀ p, H1 p = none → Q (.ref p) (upd H1 p (.tup xs))) ∧
    (∀ t σ H Q, tLst t σ H Q ↔ t σ H fun xs H1 => xs.length ≤ sizeLine ∧ ∀ p, H1 p = none → Q (.ref p) (upd H1 p (.lst xs))) ∧
    (∀ r t σ H Q, tCB r t σ H Q ↔ t σ H fun vs H1 => r vs H1 Q) ∧
    (∀ sp E t σ H Q, tC1 sp E t σ H Q ↔ t σ H fun vs H1 => sp vs H1 Q E) ∧
    (∀ C m sp E ta t σ H Q, tMth C m sp E ta t σ H Q ↔ ta σ H fun x H1 => ∃ a dx fs, x = .ref a ∧ H1 a = some (.ins C dx fs) ∧ fs.lookup m = none ∧ t σ H1 fun vs H2 => sp (x :: vs) H2 Q E) ∧
    (∀ C sp E ta t σ H Q, tStat C sp E ta t σ H Q ↔ ta σ H fun x H1 => x = .ref C ∧ t σ H1 fun vs H2 => sp vs H2 Q E) ∧
    (∀ C sp E ta σ H Q, tPr C sp E ta σ H Q ↔ ta σ H fun x H1 => ∃ a dx fs, x = .ref a ∧ H1 a = some (.ins C dx fs) ∧ sp [.ref a] H1 Q E) ∧
    (∀ C ta f σ H Q, tFd C ta f σ H Q ↔ ta σ H fun x H1 => ∃ a dx fs v, x = .ref a ∧ H1 a = some (.ins C dx fs) ∧ fs.lookup f = some v ∧ Q v H1) ∧
    (∀ C ta tv f D σ H, sFd C ta tv f D σ H ↔ tv σ H fun y H1 => ta σ H1 fun x H2 => ∃ a dx fs, x = .ref a ∧ H2 a = some (.ins C dx fs) ∧ fs.length < 1000 ∧ D.nx σ (upd H2 a (.ins C dx (putF f y fs)))) ∧
    (∀ t u D σ H, tSeq t u D σ H ↔ t { D with nx := u D } σ H) ∧
    (∀ D σ H, tNext D σ H ↔ D.nx σ H) ∧ (∀ D σ H, tBreak D σ H ↔ D.bk σ H) ∧ (∀ D σ H, tCont D σ H ↔ D.ct σ H) ∧
    (∀ te D σ H, tDrop te D σ H ↔ te σ H fun _ H1 => D.nx σ H1) ∧
    (∀ te D σ H, tRet te D σ H ↔ te σ H D.rt) ∧ (∀ D σ H, tRetN D σ H ↔ D.rt .non H) ∧
    (∀ c t u D σ H, tIfS c t u D σ H ↔ c σ H fun b H1 => if b = true then t D σ H1 else u D σ H1) ∧
    (∀ D σ H, tNever D σ H ↔ False) ∧
    (∀ te g D σ H, tAsg te g D σ H ↔ te σ H fun x H1 => g x σ H1 D.nx) ∧
    (∀ i v σ H Q, gName i v σ H Q ↔ Q (σ.set i (some v)) H) := by
  refine ⟨?_, ?_, ?_, ?_, ?_, ?_, ?_, ?_, ?_, ?_, ?_, ?_, ?_, ?_, ?_, ?_, ?_, ?_, ?_, ?_, ?_, ?_, ?_, ?_, ?_, ?_, ?_, ?_, ?_, ?_, ?_, ?_, ?_, ?_, ?_, ?_, ?_, ?_, ?_, ?_⟩
  all_goals (intros; exact Iff.rfl)
end Sf
namespace Sf
open PySem PySem.Spec PyProof.Rows L2
/-! ### comprehensions whose turns change nothing that stands -/
theorem lcP {J : It} {xs : List V} {G : Hp → Prop} (w : Walk J xs.length G (YAt xs)) {j : Nat} {te : TE} {vs : List Nat} {σ : L2.St} {H0 : Hp} {Q : VK} (f : V → V) (hz : xs.length ≤ 100000)
    (hw : ∀ x, wipe ((wipe σ vs).set j (some x)) vs = wipe σ vs) (hG : ∀ D acc, H0 D = none → G (upd H0 D (.lst acc)))
    (hte : ∀ x D acc (Q' : VK), x ∈ xs → H0 D = none → Q' (f x) (upd H0 D (.lst acc)) → te ((wipe σ vs).set j (some x)) (upd H0 D (.lst acc)) Q')
    (hq : ∀ D, H0 D = none → Q (.ref D) (upd H0 D (.lst (xs.map f)))) :
    ∀ D, H0 D = none → ∃ W : Nat → Nat → Hp → Prop, (∃ m, W 0 m (upd H0 D (.lst []))) ∧ ∀ i m H, W i m H →
      (J.stop i H ∧ Q (.ref D) H) ∨ (J.go i H ∧ ∃ Nx : Hp → Prop, (∀ H', Nx H' → ∃ m', m' < m ∧ W (i + 1) m' H') ∧ ∀ x H', J.yld i H x H' → gName j x (wipe σ vs) H' fun σ2 H2 => wipe σ2 vs = wipe σ vs ∧ tYes σ2 H2 fun b H3 =>
        if b = true then te σ2 H3 fun y H4 => ∃ acc, H4 D = some (.lst acc) ∧ acc.length < sizeLine ∧ Nx (upd H4 D (.lst (acc ++ [y]))) else Nx H3) := by
  intro D hD
  refine lc_it w (Pv := fun i H' => H' = upd H0 D (.lst ((xs.take i).map f))) rfl (fun i H' _ e => e ▸ hG D _ hD) (fun i x H H' hi e y => ?_) (fun H e => ?_)
  · obtain ⟨rfl, hx⟩ := y
    subst e
    refine ⟨hw x, ?_⟩
    show te _ _ _
    refine hte x D _ _ (List.mem_of_getElem? hx) hD ⟨_, upd_same, ?_, ?_⟩
    · rw [List.length_map, List.length_take]
      exact Nat.lt_of_le_of_lt (Nat.le_trans (Nat.min_le_right _ _) hz) (by rw [sizeLine_eq]; decide)
    · rw [upd_upd, List.take_succ, hx, List.map_append] <;> rfl
  · rw [e, List.take_length]
    exact hq D hD
theorem start_of {N : List Str} {vs : List V} {σ : L2.St} (h : start N vs = σ) {t : TS} {D : Ends} {H : Hp} (q : t D σ H) : t D (start N vs) H := h ▸ q
end Sf
/-! ### own rules: operators and built-ins over own instances, small gaps -/
namespace Sf
open PySem PySem.Spec PyProof.Rows L2
theorem relV_back {v : V} {u : Value} {Q : Value → Shared → Prop} {s' : Shared} (r : RelV v u) (h : Q u s') : PySem.W.CmpBack Q u s' := by
  cases v with
  | non => cases r; exact h
  | bl b => cases r; exact h
  | int i => obtain ⟨t, rfl⟩ := r; exact h
  | str x => obtain ⟨t, rfl⟩ := r; exact h
  | byt b => obtain ⟨t, rfl⟩ := r; exact h
  | flt b => obtain ⟨t, rfl⟩ := r; exact h
  | ref a => cases r; exact h
  | ty n => cases r; exact h
section
variable {X : Cx} {k j : Nat} {C f : Addr} {sp : Sp}
/-- a op b of two instances of the class at C, its method op at f -/
structure OwnOp (K : PySem.W.Frag) (C : Addr) (op : Operator) (f : Addr) : Prop where
  first : PySem.W.selfFirst K C = true
  at_ : PySem.W.findIn K (.ref C) (PySem.dunder op.info.2) = some (some (.ref f))
  fn : PySem.W.isFn K (.ref f) = true
def rOwn (C : Addr) (sp : Sp) : R2 := fun x y H Q => ∃ a b dx dy fs gs, x = .ref a ∧ y = .ref b ∧ H a = some (.ins C dx fs) ∧ H b = some (.ins C dy gs) ∧ sp [.ref a, .ref b] H Q E0
theorem op_own {op : Operator} (F : FnR X.prog X.w X.K X.mg X.base (L2.CX X.prog X.w) k f sp) (c : OwnOp X.K C op f) (hr : Room j X.A) (hj : k ≤ j := by decide) : OpR X (binaryOp op) (rOwn C sp) := by
  intro pins s σ H x y v u Q I rx ry h
  obtain ⟨a, b, dx, dy, fs, gs, rfl, rfl, ha, hb, q⟩ := h
  cases rx
  cases ry
  obtain ⟨m, fr⟩ := I.fr
  obtain ⟨mA, O, _⟩ := ins_get I.hok ha
  obtain ⟨od, J, _⟩ := O.look
  obtain ⟨mB, O2, _⟩ := ins_get I.hok hb
  obtain ⟨od2, J2, _⟩ := O2.look
  refine PySem.W.binop_K fr I.ok.mod.kin J J2.type c.first c.at_ c.fn ?_
  refine wpAny_mono (wpAny_call (run_fnR (us := [.ref a, .ref b]) (vs := [.ref a, .ref b]) F (hr.mono hj) passL I (.cons rfl (.cons rfl .nil)) q)) (fun r s' z => ?_) fun _ _ z => z
  obtain ⟨w', H', I', rw', q'⟩ := z
  exact relV_back rw' ⟨w', H', I', rw', q'⟩
/-- len(o), o's own __len__ at f -/
structure OwnLen (K : PySem.W.Frag) (C f : Addr) : Prop where
  at_ : PySem.W.findIn K (.ref C) "__len__" = some (some (.ref f))
  fn : PySem.W.isFn K (.ref f) = true
def rOwnLen (C : Addr) (sp : Sp) : List V → Hp → VK → Prop := fun xs H Q => ∃ a dx fs, xs = [.ref a] ∧ H a = some (.ins C dx fs) ∧ sp [.ref a] H (fun v H' => ∃ n : Nat, v = .int n ∧ n ≤ sizeLine ∧ Q (.int n) H') E0
theorem call_ownLen (F : FnR X.prog X.w X.K X.mg X.base (L2.CX X.prog X.w) k f sp) (c : OwnLen X.K C f) (hr : Room j X.A) (hj : k + 1 ≤ j := by decide) : CallR X (.builtin "len") (rOwnLen C sp) := by
  intro pins s σ H xs us Q I r h
  obtain ⟨a, dx, fs, rfl, ha, q⟩ := h
  obtain ⟨u, rfl, ru⟩ := vals1 r
  cases ru
  obtain ⟨m, fr⟩ := I.fr
  obtain ⟨mA, O, _⟩ := ins_get I.hok ha
  obtain ⟨od, J, _⟩ := O.look
  refine PySem.W.len_K fr I.ok.mod.kin J c.at_ c.fn (wpAny_call (codeAny_mono (F X.A.in1 X.stack s H [.ref a] [.ref a] _ E0 (hr.mono hj).in1 I.env0.in1 (.cons rfl .nil) q) fun r s' hq => ?_))
  cases r with
  | error er => obtain ⟨_, _, _, _, _, _, _, _, _, _, _, _, z⟩ := hq; exact z.elim
  | ok fl =>
    cases fl with
    | ret u =>
      obtain ⟨v, H', I3, rv, n, e, hn, q3⟩ := I.after hq
      subst e
      obtain ⟨t, rfl⟩ := rv
      have big : sizeLine < 2 ^ 63 := by rw [sizeLine_eq]; decide
      exact ⟨⟨by omega, by omega⟩, .int n, H', I3.tok _, ⟨_, rfl⟩, q3⟩
    | next => exact False.elim hq
    | brk => exact False.elim hq
    | cont => exact False.elim hq
/-- s * 2 -/
def rMulS : R2 := fun x y H Q => ∃ z : Str, x = .str z ∧ y = .int 2 ∧ 1 ≤ z.length ∧ z.length ≤ 1000 ∧ Q (.str ⟨z.cps ++ z.cps⟩) H
theorem op_mulS : OpR X (binaryOp .Mult) rMulS := by
  intro pins s σ H x y v u Q I rx ry h
  obtain ⟨z, rfl, rfl, h3, h4, q⟩ := h
  obtain ⟨t, rfl⟩ := rx
  obtain ⟨t', rfl⟩ := ry
  have c1 : ((2 : Int) == 1 || z.length == 0) = false := by
    rw [Bool.or_eq_false_iff]
    exact ⟨by decide, beq_eq_false_iff_ne.mpr (by omega)⟩
  have tl : Builtin.Str.tooLong (z.length * (2 : Int).toNat) = false := by
    unfold Builtin.Str.tooLong
    rw [sizeLine_eq]
    exact decide_eq_false (by show ¬ z.length * 2 > 16777216; omega)
  refine PySem.P.mul_str (by decide) (fun _ _ => by omega) (fun _ _ => tl) ?_
  rw [if_neg (by omega), c1, if_neg Bool.false_ne_true]
  have e : (⟨(List.replicate (2 : Int).toNat z.cps).foldl (· ++ ·) #[]⟩ : Str) = ⟨z.cps ++ z.cps⟩ := by
    show (⟨#[] ++ z.cps ++ z.cps⟩ : Str) = _
    rw [Array.empty_append]
  rw [e]
  refine ⟨?_, .str _, H, I.tok _, ⟨_, rfl⟩, q⟩
  show (z.cps ++ z.cps).size ≤ sizeLine
  have l : z.cps.size ≤ 1000 := h4
  rw [Array.size_append, sizeLine_eq]
  omega
/-- dict(d) -/
def rDictD : List V → Hp → VK → Prop := fun xs H Q => ∃ a kvs, xs = [.ref a] ∧ Rd H a (.dK kvs) ∧ ∀ p, H p = none → Q (.ref p) (upd H p (.dK kvs))
theorem call_dictD : CallR X (.type "dict") rDictD := by
  intro pins s σ H xs us Q I r h
  obtain ⟨a, kvs, rfl, ha, q⟩ := h
  obtain ⟨u, rfl, ru⟩ := vals1 r
  cases ru
  obtain ⟨z, hs, vs, rel, dd⟩ := dk_rd I.hok ha
  have hl : kvs.length = vs.length := Paired.length rel
  refine PySem.kt_call_dict hs dd (by omega) fun h' hd sb => ?_
  refine ⟨.ref s.heap.objs.size, _, I.laid (t' := s.toks) (o := .dK kvs) (fun b ob e => ?_) (Nat.le_refl _) ⟨z, ?_, vs, rel, hd⟩, rfl, q _ (I.hok.fresh (Nat.le_refl _))⟩
  · exact (sb.2 b (Nat.ne_of_lt (Heap.lt_size e))).trans (Heap.get?_push_of_some _ e)
  · exact beq_eq_false_iff_ne.mpr (Nat.ne_of_gt I.big)
/-- a temporary thing, locked for good -/
def tFrz (t : TE) : TE := fun σ H Q => t σ H fun x H1 => ∃ d u, x = .ref d ∧ H1 d = some u ∧ Mut (some u) ∧ ∀ od, Q x (upd H1 d (.frz od u))
theorem pe_frz {e : Expr} {t : TE} (he : PE X e t) : PE X e (tFrz t) := by
  refine ⟨fun pins s σ H Q I h => thn (he.run pins s σ H _ I h) fun v s1 z => ?_⟩
  obtain ⟨x, H1, I1, rx, d, u, rfl, hd, mu, q⟩ := z
  obtain ⟨od, I2⟩ := I1.lock hd mu
  exact ⟨_, _, I2, rx, q od⟩
end
end Sf
/-! ### t * 1 is t -/
namespace Sf
open PySem PySem.Spec PyProof.Rows L2
theorem tuple_mul1 (l : Addr) (items : Array Value) (n : Nat) (dd : Option Addr) (sl : Array (Option Value)) (u : Tok) :
    Meets (Builtin.«tuple.__mul__» ⟨[.ref l, .int 1 u], []⟩) (fun _ R s => s.heap.get? l = some { cls := .type "tuple", dict := dd, data := .seq items n, slots := sl } ∧ R (.ok (.ret (.ref l))) s) :=
  .of_wp fun prog w A R s h => by
    obtain ⟨hp, g, d, tk, os⟩ := s
    obtain ⟨hl, h⟩ := h
    have f1 := AutoSeq1.idx_int
    wp_walk using wpAny_loadPart' hl
    exact ⟨_, rfl, h⟩
/-- t * 1 -/
def rRepI (K : PySem.W.Frag) : R2 := fun x y H Q => ∃ l xs, x = .ref l ∧ y = .int 1 ∧ SqT K H l xs ∧ Q (.ref l) H
theorem op_repI {X : Cx} : OpR X (binaryOp .Mult) (rRepI X.K) := by
  intro pins s σ H x y v u Q I rx ry h
  obtain ⟨l, xs, rfl, rfl, hT, q⟩ := h
  cases rx
  obtain ⟨t, rfl⟩ := ry
  obtain ⟨its, r, ⟨⟨cls, dd, data, sl⟩, ho, hc, n, hd⟩, hs⟩ := I.tuple hT
  simp only at hc hd
  subst hc hd
  have ty : s.TypeIs (.ref l) "tuple" := ⟨_, ho, rfl⟩
  have m2 := call_meets (prog := X.prog) (w := X.w) (A := X.A) (E := X.xe) (s := s) (Q := EP X pins σ Q) F.slot_tuple_mul ty F.entry_tuple_mul (F.args_tuple_mul_2 _ _) (tuple_mul1 l its.toArray n dd sl t) ⟨ho, .ref l, H, I, rfl, q⟩
  exact wpAny_binaryOp_repeat_ref (T := "tuple") (U := "int") (by decide) ty (fun s' => typeIs_int s' 1 t) noFill_tuple_mul F.fills_int_mul F.slot_int_rmul repeat_tuple F.slot_int_index.lookup
    (call_meets F.slot_int_rmul (typeIs_int s 1 t) F.entry_int_rmul (F.args_int_rmul_2 _ _) (int_rmul_tuple 1 t l its.toArray n dd sl) ⟨ho, rfl, ty, m2⟩)
theorem op_rep {X : Cx} : OpR X (binaryOp .Mult) (fun x y H Q => rRepT X.K x y H Q ∨ rRepI X.K x y H Q) := OpR.or op_repT op_repI
end Sf
/-! ### enumerate over a tuple, over a text -/
namespace Sf
open PySem PySem.Spec PyProof.Rows L2
section
variable {P : Program} {w : World} {K : PySem.W.Frag} {elts : List Expr} {kk : Nat} {tpos : Pos}
/-- a turn's new pair is laid: common to both -/
theorem enum_pair {X : Cx} {pins : List (Addr × Obj)} {s : Shared} {σ : L2.St} {H : Hp} {e it : Addr} {i tk : Nat} {h' : Heap} {u : Value} {x : V} {Q : Unit → Shared → Prop} {E : Value → Shared → Prop} (I : Inv X pins σ H s)
    (hf : ∀ b ∈ [e, it], FpOk X pins H b) (ru : RelV x u) (hel : e < s.heap.objs.size) (ho : IsEnumOut h' e it ((i : Int) + 1) u s.heap.objs.size)
    (hT : h'.get? s.heap.objs.size = some { cls := .type "tuple", data := .seq #[.int i tk, u] }) (hk : ∀ b o, b ≠ e → b ≠ it → s.heap.get? b = some o → h'.get? b = some o)
    (q : ∀ h'', Heap.SameBut e h' h'' → IsEnum h'' e it ((i : Int) + 1) u → Inv X pins σ (upd H s.heap.objs.size (.tup [.int (i : Nat), x])) { s with heap := h'', toks := tk + 1 } → Q () { s with heap := h'', toks := tk + 1 }) :
    wpAny (model X.prog X.w) X.A (letOwnedTupleGo (.Tuple elts kk tpos) (.ref e) (.ref s.heap.objs.size)) Q E { s with heap := h', toks := tk + 1 } := by
  refine wpAny_letOwnedTupleGo_enum (s := { s with heap := h', toks := tk + 1 }) ho fun h'' he' sb => q h'' sb he' ?_
  have ne : s.heap.objs.size ≠ e := Nat.ne_of_gt hel
  have new : ObjOk X.prog X.w (upd H s.heap.objs.size (.tup [.int (i : Nat), x])) h'' s.heap.objs.size (.tup [.int (i : Nat), x]) := by
    refine ⟨by show 2 ≤ sizeLine; decide, [.int i tk, u], .cons ⟨_, rfl⟩ (.cons ru .nil), ⟨_, (sb.2 _ ne).trans hT, rfl, _, rfl⟩⟩
  refine I.turnedNew (ch := [e, it]) (fun b o hb h => ?_) hf (Nat.le_refl _) new
  have n1 : b ≠ e := fun z => hb (by rw [z]; exact List.mem_cons_self)
  have n2 : b ≠ it := fun z => hb (by rw [z]; exact List.mem_cons_of_mem _ List.mem_cons_self)
  exact (sb.2 b n1).trans (hk b o n1 n2 h)
/-- (i, sign) of a text -/
def ItES (z : Str) : It := ⟨fun i _ => i < z.cps.size, fun i H v H' => ∃ T c, v = .ref T ∧ H T = none ∧ H' = upd H T (.tup [.int (i : Nat), .str ⟨#[c]⟩]) ∧ z.cps[i]? = some c, fun i _ => i = z.cps.size⟩
theorem turn_enumS (z : Str) (t : Tok) (e it : Addr) : Turn P w K (.Tuple elts kk tpos) (ItES z) [e, it] e (fun i h => (∃ old, IsEnum h e it ((i : Nat) : Int) old) ∧ h.IsStrIter it (strIterType z) z t i ∧ e ≠ it) where
  mem := List.mem_cons_self
  obj := fun i h st b hb => by
    obtain ⟨⟨old, he⟩, ⟨o, ho, _, hd⟩, _⟩ := st
    rcases List.mem_cons.mp hb with rfl | hb
    · exact ⟨_, he, fun v z => nomatch z⟩
    · rw [List.mem_singleton.mp hb]
      exact ⟨o, ho, fun v z => by rw [hd] at z; cases z⟩
  keep := fun i h h' st k => by
    obtain ⟨⟨old, he⟩, ⟨o, ho, r⟩, hn⟩ := st
    exact ⟨⟨old, k e List.mem_cons_self _ he⟩, ⟨o, k it (List.mem_cons_of_mem _ List.mem_cons_self) _ ho, r⟩, hn⟩
  item := by
    intro X hP hw hK hc i pins s σ H E I hf st hg
    subst hP hw hK
    obtain ⟨⟨old, he⟩, hit, hn⟩ := st
    have hel : e < s.heap.objs.size := Heap.lt_size he
    have hil : it < s.heap.objs.size := by obtain ⟨_, q, _⟩ := hit; exact Heap.lt_size q
    have D := Draws.text (prog := X.prog) (w := X.w) (A := X.A.in1) (I.ok.hd hc) it z t
    refine wpAny_pyNext_enum_itemD D he hit hg hn (by rw [List.mem_singleton]; exact hn) fun u h' tk hp ho st' hT hsz hk => ?_
    obtain ⟨c, t2, hcx, rfl⟩ := hp
    refine ⟨_, rfl, enum_pair (x := .str ⟨#[c]⟩) I hf ⟨_, rfl⟩ hel ho hT hk fun h'' sb he' I1 => ?_⟩
    have e1 : ((i + 1 : Nat) : Int) = (i : Int) + 1 := by omega
    refine ⟨.ref s.heap.objs.size, _, I1, rfl, ⟨_, c, rfl, I.hok.fresh (Nat.le_refl _), rfl, hcx⟩, ⟨⟨_, by rw [e1]; exact he'⟩, ?_, hn⟩, fun b hb => ?_⟩
    · obtain ⟨o, ho2, r⟩ := st'
      exact ⟨o, (sb.2 it (Ne.symm hn)).trans ho2, r⟩
    · have hb' : b < s.heap.objs.size := by
        rcases List.mem_cons.mp hb with rfl | hb2
        · exact hel
        · rw [List.mem_singleton.mp hb2]; exact hil
      rw [upd_ne (Nat.ne_of_lt hb')]
      exact (hf b hb).1
  done := by
    intro X hP hw hK hc i pins s σ H E I hf st hg
    subst hP hw hK
    obtain ⟨⟨old, he⟩, hit, hn⟩ := st
    have D := Draws.text (prog := X.prog) (w := X.w) (A := X.A.in1) (I.ok.hd hc) it z t
    have hg' : i = z.cps.size := hg
    subst hg'
    obtain ⟨f0, f1, f2, f3, f4, f5⟩ := hf it (List.mem_cons_of_mem _ List.mem_cons_self)
    exact wpAny_pyNext_enum_endD D he hit fun h' eb => ⟨rfl, I.turned (t' := s.toks) (fun b o hb q => eb b o hb q) f0 f1 f3 f4 f5⟩
  self := fun A i s Q E st h => by
    obtain ⟨⟨_, he⟩, _⟩ := st
    exact wpAny_pyIter_enum he h
def iEnumS (ta : TA) : TI := fun σ H R => ta σ H fun vs H1 => ∃ z, vs = [.str z] ∧ R (ItES z) H1
theorem pi_enumS {X : Cx} {e : Expr} {ta : TA} {p pos : Pos} (hm : X.mg "enumerate" = none) (ha : PA X [e] ta) (hg : Gl X "enumerate" := by rfl) (hs : starEach [e] X.env = [(false, eval e X.env)] := by rfl) :
    PI X (.Tuple elts kk tpos) (.Call (.Name "enumerate" p) [e] [] pos) (iEnumS ta) := by
  refine ⟨fun pins s σ H R I h => Call_ (ld_blt I hg hm boot_enumerate (PyProof.Rows.callWith_type1 (thn (ha.run pos pins s σ H _ I h) fun us s1 z => ?_) hs rfl))⟩
  obtain ⟨vs, H1, I1, r1, x, rfl, q⟩ := z
  obtain ⟨u, rfl, ru⟩ := vals1 r1
  obtain ⟨t, rfl⟩ := ru
  refine call_enumerate_str fun h' he hit hsz hk => wpAny_pyIter_enum he ?_
  have I2 : Inv X pins σ H1 { s1 with heap := h' } := I1.kept (t' := s1.toks) hk
  refine ⟨s1.heap.objs.size + 1, [s1.heap.objs.size + 1, s1.heap.objs.size], _, _, H1, rfl, I2, turn_enumS x t (s1.heap.objs.size + 1) s1.heap.objs.size, ⟨⟨.none, he⟩, hit, Nat.succ_ne_self _⟩, fun b hb => ?_, q⟩
  have hle : s1.heap.objs.size ≤ b := by
    rcases List.mem_cons.mp hb with rfl | hb2
    · exact Nat.le_succ _
    · rw [List.mem_singleton.mp hb2]; exact Nat.le_refl _
  exact I1.fpOk hle (I1.hok.fresh hle)
theorem walk_enumS {z : Str} : Walk (ItES z) z.cps.size (fun _ => True) (fun i H v H' => ∃ T c, v = .ref T ∧ H T = none ∧ H' = upd H T (.tup [.int (i : Nat), .str ⟨#[c]⟩]) ∧ z.cps[i]? = some c) :=
  ⟨fun i _ h _ => h, fun _ _ => rfl, fun _ _ _ _ _ _ y => y⟩
/-- (i, item) of a tuple -/
def ItET (K : PySem.W.Frag) (a : Addr) : It := ⟨fun i H => ∃ xs x, SqT K H a xs ∧ xs[i]? = some x, fun i H v H' => ∃ T x, v = .ref T ∧ H T = none ∧ H' = upd H T (.tup [.int (i : Nat), x]) ∧ ∀ xs, SqT K H a xs → xs[i]? = some x, fun i H => ∃ xs, SqT K H a xs ∧ i = xs.length⟩
theorem turn_enumT (a e it : Addr) : Turn P w K (.Tuple elts kk tpos) (ItET K a) [e, it] e (fun i h => (∃ old, IsEnum h e it ((i : Nat) : Int) old) ∧ h.IsTupleIter it a i ∧ e ≠ it) where
  mem := List.mem_cons_self
  obj := fun i h st b hb => by
    obtain ⟨⟨old, he⟩, ⟨o, ho, _, hd⟩, _⟩ := st
    rcases List.mem_cons.mp hb with rfl | hb
    · exact ⟨_, he, fun v z => nomatch z⟩
    · rw [List.mem_singleton.mp hb]
      exact ⟨o, ho, fun v z => by rw [hd] at z; cases z⟩
  keep := fun i h h' st k => by
    obtain ⟨⟨old, he⟩, ⟨o, ho, r⟩, hn⟩ := st
    exact ⟨⟨old, k e List.mem_cons_self _ he⟩, ⟨o, k it (List.mem_cons_of_mem _ List.mem_cons_self) _ ho, r⟩, hn⟩
  item := by
    intro X hP hw hK hc i pins s σ H E I hf st hg
    subst hP hw hK
    obtain ⟨⟨old, he⟩, hit, hn⟩ := st
    obtain ⟨xs, x, hq, hx⟩ := hg
    obtain ⟨its, rv, ht, hz⟩ := I.tuple hq
    obtain ⟨u, hu, ru⟩ := rv.get hx
    have hel : e < s.heap.objs.size := Heap.lt_size he
    have hil : it < s.heap.objs.size := by obtain ⟨_, q, _⟩ := hit; exact Heap.lt_size q
    have hat : a ≠ it := fun z => by
      obtain ⟨o1, h1, _, d1⟩ := hit
      obtain ⟨o2, h2, _, n2, d2⟩ := ht
      rw [z, h1] at h2
      cases h2
      rw [d1] at d2
      cases d2
    have hae : e ≠ a := fun z => by
      obtain ⟨o2, h2, _, n2, d2⟩ := ht
      have he2 : s.heap.get? e = some _ := he
      rw [z, h2] at he2
      cases he2
      cases d2
    have D := Draws.tuple (prog := X.prog) (w := X.w) (A := X.A.in1) (I.ok.hd hc) it a hat its.toArray
    have hi : i < its.toArray.size := by
      have := (List.getElem?_eq_some_iff.mp hu).1
      simpa using this
    refine wpAny_pyNext_enum_itemD D he ⟨hit, ht⟩ hi hn (by simp only [List.mem_cons, List.not_mem_nil, or_false, not_or]; exact ⟨hn, hae⟩) fun v h' tk hp ho st' hT hsz hk => ?_
    have ev : v = u := by
      have h3 : its.toArray[i]? = some v := hp
      rw [List.getElem?_toArray, hu] at h3
      exact (Option.some.inj h3).symm
    subst ev
    refine ⟨_, rfl, enum_pair (x := x) I hf ru hel ho hT hk fun h'' sb he' I1 => ?_⟩
    have e1 : ((i + 1 : Nat) : Int) = (i : Int) + 1 := by omega
    refine ⟨.ref s.heap.objs.size, _, I1, rfl, ⟨_, x, rfl, I.hok.fresh (Nat.le_refl _), rfl, fun ys hy => by rw [I.tuple_inj hy hq]; exact hx⟩, ⟨⟨_, by rw [e1]; exact he'⟩, ?_, hn⟩, fun b hb => ?_⟩
    · obtain ⟨⟨o, ho2, r⟩, _⟩ := st'
      exact ⟨o, (sb.2 it (Ne.symm hn)).trans ho2, r⟩
    · have hb' : b < s.heap.objs.size := by
        rcases List.mem_cons.mp hb with rfl | hb2
        · exact hel
        · rw [List.mem_singleton.mp hb2]; exact hil
      rw [upd_ne (Nat.ne_of_lt hb')]
      exact (hf b hb).1
  done := by
    intro X hP hw hK hc i pins s σ H E I hf st hg
    subst hP hw hK
    obtain ⟨⟨old, he⟩, hit, hn⟩ := st
    obtain ⟨xs, hq, hx⟩ := hg
    obtain ⟨its, rv, ht, hz⟩ := I.tuple hq
    have hat : a ≠ it := fun z => by
      obtain ⟨o1, h1, _, d1⟩ := hit
      obtain ⟨o2, h2, _, n2, d2⟩ := ht
      rw [z, h1] at h2
      cases h2
      rw [d1] at d2
      cases d2
    have D := Draws.tuple (prog := X.prog) (w := X.w) (A := X.A.in1) (I.ok.hd hc) it a hat its.toArray
    have ei : i = its.toArray.size := by
      have := rv.length
      simp
      omega
    subst ei
    obtain ⟨f0, f1, f2, f3, f4, f5⟩ := hf it (List.mem_cons_of_mem _ List.mem_cons_self)
    exact wpAny_pyNext_enum_endD D he ⟨hit, ht⟩ fun h' eb => ⟨rfl, I.turned (t' := s.toks) (fun b o hb q => eb b o hb q) f0 f1 f3 f4 f5⟩
  self := fun A i s Q E st h => by
    obtain ⟨⟨_, he⟩, _⟩ := st
    exact wpAny_pyIter_enum he h
end
end Sf
namespace Sf
open PySem PySem.Spec PyProof.Rows L2
theorem enum_newT (l : Addr) (items : Array Value) (n : Nat) (dct : Option Addr) (sl : Array (Option Value)) :
    Meets (Builtin.«enumerate.__new__» ⟨[.type "enumerate", .ref l], []⟩) (fun _ R s => s.heap.get? l = some { cls := .type "tuple", dict := dct, data := .seq items n, slots := sl } ∧
      R (.ok (.ret (.ref (s.heap.push { cls := .type "tuple_iterator", data := .fields #[.ref l, .int 0 0] }).objs.size)))
        { s with heap := (s.heap.push { cls := .type "tuple_iterator", data := .fields #[.ref l, .int 0 0] }).push { cls := .type "enumerate", data := .fields #[.none, .bool false, .ref s.heap.objs.size, rawInt 0, .none, .none] } }) :=
  .of_wp fun prog w A R s h => by
    obtain ⟨hp, g, d, tk, os⟩ := s
    obtain ⟨hl, h⟩ := h
    have hsub := sub_enumerate
    have hT : Heap.IsTuple (Shared.heap ⟨hp, g, d, tk, os⟩) l items := ⟨_, hl, rfl, n, rfl⟩
    wp_walk using AutoSeq1.wpAny_loadPart' hl
    refine wpAny_stack_any fun st => wpAny_pure ?_
    split
    · rename_i c _ _ _ _ _
      cases (c == Value.type "enumerate") <;> (wp_walk using AutoSeq1.wpAny_loadPart' hl, wpAny_pyIter_tuple hT; exact ⟨_, rfl, h⟩)
    · wp_walk using AutoSeq1.wpAny_loadPart' hl, wpAny_pyIter_tuple hT
      exact ⟨_, rfl, h⟩
theorem call_enumT {prog : Program} {w : World} {A : Around} {E : Value → Shared → Prop} {s : Shared} {l : Addr} {items : Array Value} {Q : Value → Shared → Prop} (hL : s.heap.IsTuple l items)
    (h : ∀ h', IsEnum h' (s.heap.objs.size + 1) s.heap.objs.size 0 .none → h'.IsTupleIter s.heap.objs.size l 0 → (∀ b o, s.heap.get? b = some o → h'.get? b = some o) → Q (.ref (s.heap.objs.size + 1)) { s with heap := h' }) :
    wpAny (model prog w) A (call (.type "enumerate") [.ref l]) Q E s := by
  obtain ⟨⟨c, dct, dt, sl⟩, hl, hc, n, hd⟩ := hL
  replace hc : c = .type "tuple" := hc
  replace hd : dt = .seq items n := hd
  subst hc hd
  refine callType_new F.called_enumerate (by decide) (F.typeCall_enumerate_1 _) (F.newCall_enumerate_1 _) (fun obj => F.args_object_init_2 obj _) F.entry_enumerate_new (enum_newT l items n dct sl) ⟨hl, ?_⟩
  have hz : (s.heap.push { cls := .type "tuple_iterator", data := .fields #[.ref l, .int 0 0] }).objs.size = s.heap.objs.size + 1 := Heap.size_push ..
  show _ ∧ _
  rw [hz]
  have he : IsEnum ((s.heap.push { cls := .type "tuple_iterator", data := .fields #[.ref l, .int 0 0] }).push { cls := .type "enumerate", data := .fields #[.none, .bool false, .ref s.heap.objs.size, rawInt 0, .none, .none] }) (s.heap.objs.size + 1) s.heap.objs.size 0 .none := by
    have q := Heap.get?_push_size (s.heap.push { cls := .type "tuple_iterator", data := .fields #[.ref l, .int 0 0] }) (o := { cls := .type "enumerate", data := .fields #[.none, .bool false, .ref s.heap.objs.size, rawInt 0, .none, .none] }) rfl
    rw [hz] at q
    exact q
  exact ⟨⟨_, he, rfl⟩, h _ he ⟨_, Heap.get?_push_of_some _ (Heap.get?_push_size _ rfl), rfl, rfl⟩ fun b o x => Heap.get?_push_of_some _ (Heap.get?_push_of_some _ x)⟩
section
variable {K : PySem.W.Frag} {elts : List Expr} {kk : Nat} {tpos : Pos}
def iEnumT (K : PySem.W.Frag) (ta : TA) : TI := fun σ H R => ta σ H fun vs H1 => ∃ a xs, vs = [.ref a] ∧ SqT K H1 a xs ∧ R (ItET K a) H1
theorem pi_enumT {X : Cx} {e : Expr} {ta : TA} {p pos : Pos} (hm : X.mg "enumerate" = none) (ha : PA X [e] ta) (hg : Gl X "enumerate" := by rfl) (hs : starEach [e] X.env = [(false, eval e X.env)] := by rfl) :
    PI X (.Tuple elts kk tpos) (.Call (.Name "enumerate" p) [e] [] pos) (iEnumT X.K ta) := by
  refine ⟨fun pins s σ H R I h => Call_ (ld_blt I hg hm boot_enumerate (PyProof.Rows.callWith_type1 (thn (ha.run pos pins s σ H _ I h) fun us s1 z => ?_) hs rfl))⟩
  obtain ⟨vs, H1, I1, r1, a, xs, rfl, hq, q⟩ := z
  obtain ⟨u, rfl, ru⟩ := vals1 r1
  cases ru
  obtain ⟨its, rv, ht, hz⟩ := I1.tuple hq
  refine call_enumT ht fun h' he hit hk => wpAny_pyIter_enum he ?_
  have I2 : Inv X pins σ H1 { s1 with heap := h' } := I1.kept (t' := s1.toks) hk
  refine ⟨s1.heap.objs.size + 1, [s1.heap.objs.size + 1, s1.heap.objs.size], _, _, H1, rfl, I2, turn_enumT a (s1.heap.objs.size + 1) s1.heap.objs.size, ⟨⟨.none, he⟩, hit, Nat.succ_ne_self _⟩, fun b hb => ?_, q⟩
  have hle : s1.heap.objs.size ≤ b := by
    rcases List.mem_cons.mp hb with rfl | hb2
    · exact Nat.le_succ _
    · rw [List.mem_singleton.mp hb2]; exact Nat.le_refl _
  exact I1.fpOk hle (I1.hok.fresh hle)
theorem walk_enumT {a : Addr} {xs : List V} : Walk (ItET K a) xs.length (fun H => SqT K H a xs) (fun i H v H' => ∃ T x, v = .ref T ∧ H T = none ∧ H' = upd H T (.tup [.int (i : Nat), x]) ∧ xs[i]? = some x) :=
  ⟨fun i H h q => ⟨xs, xs[i], q, by simp [h]⟩, fun H q => ⟨xs, q, rfl⟩, fun i H x H' h q y => by
    obtain ⟨T, v, h1, h2, h3, h4⟩ := y
    exact ⟨T, v, h1, h2, h3, h4 xs q⟩⟩
end
end Sf
/-! ### own rule: C(e, ..) by the promise of __init__ -/
namespace Sf
open PySem PySem.Spec PyProof.Rows L2
theorem pe_never {X : Cx} {e : Expr} : PE X e (fun _ _ _ => False) := ⟨fun _ _ _ _ _ _ h => h.elim⟩
/-- a new instance, then its __init__ -/
def tMk (C : Addr) (sp : Sp) (E : XK) (t : TA) : TE := fun σ H Q => t σ H fun vs H1 => ∀ n d, H1 n = none → H1 d = none → d ≠ n → sp (.ref n :: vs) (upd (upd H1 d (.own n)) n (.ins C d [])) (fun v H2 => v = .non ∧ Q (.ref n) H2) E
section
variable {X : Cx} {k j : Nat} {C f : Addr} {x : Str} {sp : Sp} {E : XK} {p pos : Pos} {e : Expr} {es : List Expr} {t : TA}
theorem pe_mk (M : Mk X.K C f) (F : FnR X.prog X.w X.K X.mg X.base (L2.CX X.prog X.w) k f sp) (hr : Room j X.A) (hg : Gl X x) (hm : X.mg x = some (.ref C)) (hx : Passes (L2.CX X.prog X.w) X E) (ha : PA X (e :: es) t)
    (hj : k + 1 ≤ j := by decide) (hd : (x == ("__debug__" : Str)) = false := by decide)
    (he : starEach (e :: es) X.env = (false, eval e X.env) :: starEach es X.env := by rfl) (hpl : (backTo pos (starEach es X.env)).any (·.1) = false := by rfl) :
    PE X (.Call (.Name x p) (e :: es) [] pos) (tMk C sp E t) := by
  refine ⟨fun pins s σ H Q I h => wpAny_Call_Name_kw (ld_glob I hg hm (PySem.W.callWith_K (h₀ := X.base) I.ok.mod.kin M.kp (thn (ha.run pos pins s σ H _ I h) fun us s1 z => ?_) he hpl) hd)⟩
  obtain ⟨vs, H1, I1, r, q⟩ := z
  refine ⟨I1.kIn, ?_⟩
  have q2 := q (s1.heap.objs.size + 1) s1.heap.objs.size (I1.hok.fresh (Nat.le_add_right _ 1)) (I1.hok.fresh Nat.le.refl) (Nat.ne_of_lt Nat.le.refl)
  have I2 := Inv.made (C := C) I1
  have hk : Room (k + 1) X.A := hr.mono hj
  refine wpAny_call (make_map (f := f) I1.kIn M.makes M.init (beq_iff_eq.mp M.fn) (codeAny_mono (F _ X.stack _ _ (.ref (s1.heap.objs.size + 1) :: us) (.ref (s1.heap.objs.size + 1) :: vs) _ E (hk.make C us []) (I2.env0.make C us []) (.cons rfl r) q2) fun b s' z => ?_))
  cases b with
  | error er => exact hx pins σ _ _ er s' I2 z
  | ok fl =>
    cases fl with
    | ret u =>
      obtain ⟨v, H', I3, rv, ev, q3⟩ := I2.after z
      subst ev
      exact ⟨rv, .ref (s1.heap.objs.size + 1), H', I3, rfl, q3⟩
    | next => exact z.elim
    | brk => exact z.elim
    | cont => exact z.elim
end
end Sf
/-! ### further readings -/
namespace Sf
open PySem PySem.Spec PyProof.Rows L2
theorem cxK {CX : CXT} {P : Program} {w : World} {K : PySem.W.Frag} {mg : Str → Option Value} {base : Heap} {N : List Str} {q : Str} {sc : Scope} {f : Addr} {cd : Value} {A : Around} {outer : List Env} {s : Shared} {H : Hp} {E : XK} : (cxOf CX P w K mg base N q sc f cd A outer s H E).K = K := rfl
theorem rd2 :
    (∀ g x H Q, rU g x H Q ↔ ∃ i, x = .int i ∧ Q (g i) H) ∧
    (∀ r te tl th σ H Q, L2.tSl r te tl th σ H Q ↔ te σ H fun x H1 => tl σ H1 fun l H2 => th σ H2 fun u H3 => r x l u H3 Q) ∧
    (∀ t σ H Q, tPart t σ H Q ↔ t σ H fun x H1 => ∃ i, x = .int i ∧ Q (some i) H1) ∧
    (∀ σ H Q, tNoPart σ H Q ↔ Q none H) ∧
    (∀ td ty σ H Q, tDGet td ty σ H Q ↔ td σ H fun x H1 => ty σ H1 fun y H2 => ∃ a v, x = .ref a ∧ DGet H2 a y (some v) ∧ Q v H2) ∧
    (∀ ty td σ H Q, tDIn ty td σ H Q ↔ ty σ H fun y H1 => td σ H1 fun x H2 => ∃ a o, x = .ref a ∧ DGet H2 a y o ∧ Q (.bl o.isSome) H2) ∧
    (∀ ty td σ H Q, tDNotIn ty td σ H Q ↔ ty σ H fun y H1 => td σ H1 fun x H2 => ∃ a o, x = .ref a ∧ DGet H2 a y o ∧ Q (.bl (!o.isSome)) H2) ∧
    (∀ σ H Q, tDNewK σ H Q ↔ ∀ p, H p = none → Q (.ref p) (upd H p (.dK []))) ∧
    (∀ i te ti D σ H, tAug i te ti D σ H ↔ ∃ x, σ[i]? = some (some x) ∧ te σ H fun y H1 => ti x y H1 fun z H2 => D.nx (σ.set i (some z)) H2) ∧
    (∀ f x y H Q, ipI f x y H Q ↔ ∃ i j, x = .int i ∧ y = .int j ∧ Q (.int (f i j)) H) ∧
    (∀ C sp E t σ H Q, tMk C sp E t σ H Q ↔ t σ H fun vs H1 => ∀ n d, H1 n = none → H1 d = none → d ≠ n → sp (.ref n :: vs) (upd (upd H1 d (.own n)) n (.ins C d [])) (fun v H2 => v = .non ∧ Q (.ref n) H2) E) ∧
    (∀ K T r to t σ H Q, tBM K T r to t σ H Q ↔ to σ H fun x H1 => tyV K T x H1 ∧ t σ H1 fun xs H2 => r x xs H2 Q) ∧
    (∀ K n t v σ H Q, gTup K n t v σ H Q ↔ ∃ a xs, v = .ref a ∧ SqT K H a xs ∧ xs.length = n ∧ t xs σ H Q) ∧
    (∀ vs σ H Q, gNil vs σ H Q ↔ vs = [] ∧ Q σ H) ∧
    (∀ t u vs σ H Q, gCons t u vs σ H Q ↔ ∃ v vr, vs = v :: vr ∧ t v σ H fun σ' H' => u vr σ' H' Q) ∧
    (∀ td ty tv D σ H, sDPut td ty tv D σ H ↔ tv σ H fun v H1 => td σ H1 fun x H2 => ty σ H2 fun y H3 => ∃ a H4, x = .ref a ∧ DPut H3 a y v H4 ∧ D.nx σ H4) := by
  refine ⟨?_, ?_, ?_, ?_, ?_, ?_, ?_, ?_, ?_, ?_, ?_, ?_, ?_, ?_, ?_, ?_⟩
  all_goals (intros; exact Iff.rfl)
end Sf
/-! ### comprehensions, loops: all that stood stands -/
namespace Sf
open PySem PySem.Spec PyProof.Rows L2
theorem same_upd {H : Hp} {a : Addr} {o : HO} (h : H a = none) : Same H (upd H a o) := fun b u e => by
  rw [upd_ne (ne_of_none e h)]; exact e
/-- a comprehension's turns; a loop's -/
def LcK (J : It) (g : TG) (tt : TT) (te : TE) (vs : List Nat) (σ : L2.St) (Q : VK) (H0 : Hp) : Prop := ∀ D, H0 D = none → ∃ W : Nat → Nat → Hp → Prop, (∃ m, W 0 m (upd H0 D (.lst []))) ∧ ∀ i m H, W i m H →
      (J.stop i H ∧ Q (.ref D) H) ∨ (J.go i H ∧ ∃ Nx : Hp → Prop, (∀ H', Nx H' → ∃ m', m' < m ∧ W (i + 1) m' H') ∧ ∀ x H', J.yld i H x H' → g x (wipe σ vs) H' fun σ2 H2 => wipe σ2 vs = wipe σ vs ∧ tt σ2 H2 fun b H3 =>
        if b = true then te σ2 H3 fun y H4 => ∃ acc, H4 D = some (.lst acc) ∧ acc.length < sizeLine ∧ Nx (upd H4 D (.lst (acc ++ [y]))) else Nx H3)
def ForK (J : It) (g : TG) (tb : TS) (D : Ends) (σ : L2.St) (H : Hp) : Prop := ∃ W : Nat → Nat → L2.St → Hp → Prop, (∃ m, W 0 m σ H) ∧ ∀ i m σ H, W i m σ H →
      (J.stop i H ∧ D.nx σ H) ∨ (J.go i H ∧ ∃ N : L2.St → Hp → Prop, (∀ σ' H', N σ' H' → ∃ m', m' < m ∧ W (i + 1) m' σ' H') ∧ ∀ x H', J.yld i H x H' → g x σ H' fun σ2 H2 => tb { D with nx := N, ct := N, bk := D.nx } σ2 H2)
def DcK (J : It) (g : TG) (tt : TT) (tk tv : TE) (vs : List Nat) (σ : L2.St) (Q : VK) (H1 : Hp) : Prop := ∀ D, H1 D = none → ∃ W : Nat → Nat → Hp → Prop, (∃ m, W 0 m (upd H1 D (.dK []))) ∧ ∀ i m H, W i m H →
  (J.stop i H ∧ Q (.ref D) H) ∨ (J.go i H ∧ ∃ Nx : Hp → Prop, (∀ H', Nx H' → ∃ m', m' < m ∧ W (i + 1) m' H') ∧ ∀ x H', J.yld i H x H' → g x (wipe σ vs) H' fun σ2 H2 => wipe σ2 vs = wipe σ vs ∧ tt σ2 H2 fun b H3 =>
    if b = true then tk σ2 H3 fun y H4 => tv σ2 H4 fun z H5 => ∃ kvs k, y = kV k ∧ H5 D = some (.dK kvs) ∧ kvs.length < sizeLine ∧ Nx (upd H5 D (.dK (putK kvs k z))) else Nx H3)
theorem rd4 :
    (∀ wi g tt te vs σ H Q, tLc wi g tt te vs σ H Q ↔ wi σ H fun J H1 => LcK J g tt te vs σ Q H1) ∧
    (∀ wi g tb D σ H, tFor wi g tb D σ H ↔ wi σ H fun J H1 => ForK J g tb D σ H1) ∧
    (∀ wi g tt tk tv vs σ H Q, tDc wi g tt tk tv vs σ H Q ↔ wi σ H fun J H1 => DcK J g tt tk tv vs σ Q H1) ∧
    (∀ K tl σ H R, iTup K tl σ H R ↔ tl σ H fun x H1 => ∃ a, x = .ref a ∧ (∃ xs, SqT K H1 a xs) ∧ R (Itt K a) H1) ∧
    (∀ K tl σ H R, iList K tl σ H R ↔ tl σ H fun x H1 => ∃ a, x = .ref a ∧ (∃ xs, SqL K H1 a xs) ∧ R (Itl K a) H1) ∧
    (∀ te σ H R, iStr te σ H R ↔ te σ H fun v H1 => ∃ x, v = .str x ∧ R (Its x) H1) ∧
    (∀ K ta σ H R, iEnumT K ta σ H R ↔ ta σ H fun vs H1 => ∃ a xs, vs = [.ref a] ∧ SqT K H1 a xs ∧ R (ItET K a) H1) ∧
    (∀ ta σ H R, iEnumS ta σ H R ↔ ta σ H fun vs H1 => ∃ z, vs = [.str z] ∧ R (ItES z) H1) ∧
    (∀ td σ H R, iItems td σ H R ↔ td σ H fun x H1 => ∃ d o kvs, x = .ref d ∧ H1 d = some (.frz o (.dK kvs)) ∧ R (Iti d o kvs) H1) := by
  refine ⟨?_, ?_, ?_, ?_, ?_, ?_, ?_, ?_, ?_⟩
  all_goals (intros; exact Iff.rfl)
theorem forK {J : It} {n : Nat} {G : Hp → Prop} {Y : Nat → Hp → V → Hp → Prop} (w : Walk J n G Y) {g : TG} {tb : TS} {D : Ends} {σ : L2.St} {H : Hp} (Pv : Nat → L2.St → Hp → Prop) (h0 : Pv 0 σ H) (hG : ∀ i σ H, i ≤ n → Pv i σ H → G H)
    (hs : ∀ i x σ H H', i < n → Pv i σ H → Y i H x H' → g x σ H' fun σ2 H2 => tb { D with nx := Pv (i + 1), ct := Pv (i + 1), bk := D.nx } σ2 H2) (hd : ∀ σ H, Pv n σ H → D.nx σ H) : ForK J g tb D σ H := for_it w Pv h0 hG hs hd
theorem pt_never {X : Cx} {e : Expr} : PT X e (fun _ _ _ => False) := ⟨fun _ _ _ _ _ _ h => h.elim⟩
theorem lcG {J : It} {xs : List V} {G : Hp → Prop} (w : Walk J xs.length G (YAt xs)) {j : Nat} {tt : TT} {te : TE} {vs : List Nat} {σ : L2.St} {H0 : Hp} {Q : VK} (p : V → Bool) (f : V → V) (hz : xs.length ≤ 100000)
    (hw : ∀ x, wipe ((wipe σ vs).set j (some x)) vs = wipe σ vs) (hG : ∀ H', Same H0 H' → G H')
    (htt : ∀ x H' (R : Bool → Hp → Prop), x ∈ xs → Same H0 H' → (∀ H2, Same H' H2 → R (p x) H2) → tt ((wipe σ vs).set j (some x)) H' R)
    (hte : ∀ x H' (R : VK), x ∈ xs → p x = true → Same H0 H' → (∀ H2, Same H' H2 → R (f x) H2) → te ((wipe σ vs).set j (some x)) H' R)
    (hq : ∀ D H', Same H0 H' → H' D = some (.lst ((xs.filter p).map f)) → Q (.ref D) H') : LcK J (gName j) tt te vs σ Q H0 := by
  intro D hD
  have up : ∀ {H' : Hp} {o : HO}, Same H0 H' → Same H0 (upd H' D o) := fun s b u e => by
    rw [upd_ne (ne_of_none e hD)]; exact s b u e
  refine lc_it w (Pv := fun i H' => Same H0 H' ∧ H' D = some (.lst (((xs.take i).filter p).map f))) ⟨same_upd hD, upd_same⟩ (fun i H' _ e => hG _ e.1) (fun i x H H' hi e y => ?_) (fun H e => ?_)
  · obtain ⟨rfl, hx⟩ := y
    obtain ⟨e1, e2⟩ := e
    have hm := List.mem_of_getElem? hx
    have ht : xs.take (i + 1) = xs.take i ++ [x] := by rw [List.take_add_one, hx]; rfl
    refine ⟨hw x, htt x _ _ hm e1 fun H2 s2 => ?_⟩
    cases hp : p x with
    | false =>
      rw [if_neg Bool.false_ne_true, ht, List.filter_append, List.filter_cons_of_neg (by rw [hp]; exact Bool.false_ne_true), List.filter_nil, List.append_nil]
      exact ⟨e1.trans s2, s2 _ _ e2⟩
    | true =>
      rw [if_pos rfl]
      refine hte x _ _ hm hp (e1.trans s2) fun H3 s3 => ⟨_, s3 _ _ (s2 _ _ e2), ?_, up (e1.trans (s2.trans s3)), ?_⟩
      · rw [List.length_map]
        refine Nat.lt_of_le_of_lt (Nat.le_trans (List.length_filter_le _ _) (Nat.le_trans (by rw [List.length_take]; exact Nat.min_le_right _ _) hz)) (by rw [sizeLine_eq]; decide)
      · rw [upd_same, ht, List.filter_append, List.filter_cons_of_pos hp, List.filter_nil, List.map_append] <;> rfl
  · obtain ⟨e1, e2⟩ := e
    rw [List.take_length] at e2
    exact hq D H e1 e2
theorem tYesG {σ : L2.St} {H : Hp} {R : Bool → Hp → Prop} (h : ∀ H2, Same H H2 → R true H2) : tYes σ H R := h H (Same.refl H)
/-- a text's signs -/
def sgs (z : Str) : List V := z.cps.toList.map fun c => .str ⟨#[c]⟩
theorem walk_sgs {z : Str} : Walk (Its z) (sgs z).length (fun _ => True) (YAt (sgs z)) := by
  have e : (sgs z).length = z.cps.size := by unfold sgs; rw [List.length_map, Array.length_toList]
  rw [e]
  refine walk_str.mono (fun _ h => h) fun i H x H' hi _ y => ?_
  obtain ⟨rfl, c, hc, rfl⟩ := y
  refine ⟨rfl, ?_⟩
  unfold sgs
  rw [List.getElem?_map, Array.getElem?_toList, hc] <;> rfl
end Sf
/-! ### rules with K said -/
namespace Sf
open PySem PySem.Spec PyProof.Rows L2
def rLenS (K : PySem.W.Frag) : List V → Hp → VK → Prop := fun xs H Q => ∃ p ys, xs = [.ref p] ∧ (SqL K H p ys ∨ SqT K H p ys) ∧ Q (.int ys.length) H
def rListOf (K : PySem.W.Frag) : List V → Hp → VK → Prop := fun xs H Q => ∃ p ys, xs = [.ref p] ∧ (SqL K H p ys ∨ SqT K H p ys) ∧ ∀ l, H l = none → Q (.ref l) (upd H l (.lst ys))
def rTupOf (K : PySem.W.Frag) : List V → Hp → VK → Prop := fun xs H Q => ∃ p ys, xs = [.ref p] ∧ SqL K H p ys ∧ ∀ l, H l = none → Q (.ref l) (upd H l (.tup ys))
theorem rd3 {K : PySem.W.Frag} :
    (∀ p H Q, rLenS K [.ref p] H Q ↔ ∃ ys, (SqL K H p ys ∨ SqT K H p ys) ∧ Q (.int ys.length) H) ∧
    (∀ p H Q, rListOf K [.ref p] H Q ↔ ∃ ys, (SqL K H p ys ∨ SqT K H p ys) ∧ ∀ l, H l = none → Q (.ref l) (upd H l (.lst ys))) ∧
    (∀ p H Q, rTupOf K [.ref p] H Q ↔ ∃ ys, SqL K H p ys ∧ ∀ l, H l = none → Q (.ref l) (upd H l (.tup ys))) ∧
    (∀ p i H Q, rIxT K (.ref p) (.int i) H Q ↔ ∃ xs v, SqT K H p xs ∧ atI xs i = some v ∧ Q v H) ∧
    (∀ p i H Q, rIxL K (.ref p) (.int i) H Q ↔ ∃ xs v, SqL K H p xs ∧ atI xs i = some v ∧ Q v H) ∧
    (∀ x p H Q, rIn K false x (.ref p) H Q ↔ ∃ xs, (SqL K H p xs ∨ SqT K H p xs) ∧ flatV x = true ∧ xs.all flatV = true ∧ Q (.bl (inV x xs)) H) ∧
    (∀ x p H Q, rIn K true x (.ref p) H Q ↔ ∃ xs, (SqL K H p xs ∨ SqT K H p xs) ∧ flatV x = true ∧ xs.all flatV = true ∧ Q (.bl (!inV x xs)) H) ∧
    (∀ a H Q, rAll K [.ref a] H Q ↔ ∃ bs : List Bool, SqL K H a (bs.map V.bl) ∧ Q (.bl (bs.all id)) H) ∧
    (∀ a H Q, rSum K [.ref a] H Q ↔ ∃ ns : List Int, SqL K H a (ns.map V.int) ∧ Q (.int ns.sum) H) := by
  refine ⟨fun p H Q => ?_, fun p H Q => ?_, fun p H Q => ?_, fun p i H Q => ?_, fun p i H Q => ?_, fun x p H Q => ?_, fun x p H Q => ?_, fun a H Q => ?_, fun a H Q => ?_⟩
  · exact ⟨fun ⟨_, ys, e, h⟩ => by obtain rfl := V.ref.inj (List.cons.inj e).1; exact ⟨ys, h⟩, fun ⟨ys, h⟩ => ⟨p, ys, rfl, h⟩⟩
  · exact ⟨fun ⟨_, ys, e, h⟩ => by obtain rfl := V.ref.inj (List.cons.inj e).1; exact ⟨ys, h⟩, fun ⟨ys, h⟩ => ⟨p, ys, rfl, h⟩⟩
  · exact ⟨fun ⟨_, ys, e, h⟩ => by obtain rfl := V.ref.inj (List.cons.inj e).1; exact ⟨ys, h⟩, fun ⟨ys, h⟩ => ⟨p, ys, rfl, h⟩⟩
  · exact ⟨fun ⟨_, xs, _, v, e, e2, h⟩ => by obtain rfl := V.ref.inj e; obtain rfl := V.int.inj e2; exact ⟨xs, v, h⟩, fun ⟨xs, v, h⟩ => ⟨p, xs, i, v, rfl, rfl, h⟩⟩
  · exact ⟨fun ⟨_, xs, _, v, e, e2, h⟩ => by obtain rfl := V.ref.inj e; obtain rfl := V.int.inj e2; exact ⟨xs, v, h⟩, fun ⟨xs, v, h⟩ => ⟨p, xs, i, v, rfl, rfl, h⟩⟩
  · exact ⟨fun ⟨_, xs, e, h⟩ => by obtain rfl := V.ref.inj e; exact ⟨xs, h⟩, fun ⟨xs, h⟩ => ⟨p, xs, rfl, h⟩⟩
  · exact ⟨fun ⟨_, xs, e, h⟩ => by obtain rfl := V.ref.inj e; exact ⟨xs, h⟩, fun ⟨xs, h⟩ => ⟨p, xs, rfl, h⟩⟩
  · exact ⟨fun ⟨_, ys, e, h⟩ => by obtain rfl := V.ref.inj (List.cons.inj e).1; exact ⟨ys, h⟩, fun ⟨ys, h⟩ => ⟨a, ys, rfl, h⟩⟩
  · exact ⟨fun ⟨_, ys, e, h⟩ => by obtain rfl := V.ref.inj (List.cons.inj e).1; exact ⟨ys, h⟩, fun ⟨ys, h⟩ => ⟨a, ys, rfl, h⟩⟩
theorem call_intB {X : Cx} : CallR X (.type "int") (fun xs H Q => ∃ k, xs = [.bl k] ∧ Q (.int (if k then 1 else 0)) H) := fun pins s σ H xs us Q I r q => call_int1 pins s σ H xs us Q I r (.inr q)
theorem call_intI {X : Cx} : CallR X (.type "int") (fun xs H Q => ∃ i, xs = [.int i] ∧ Q (.int i) H) := fun pins s σ H xs us Q I r q => call_int1 pins s σ H xs us Q I r (.inl q)
section
variable {X : Cx} {K : PySem.W.Frag}
theorem call_lenS (h : X.K = K := by rfl) : CallR X (.builtin "len") (rLenS K) := h ▸ call_len_seq
theorem call_listS (h : X.K = K := by rfl) : CallR X (.type "list") (rListOf K) := h ▸ call_list_of
theorem call_tupS (h : X.K = K := by rfl) : CallR X (.type "tuple") (rTupOf K) := h ▸ fun pins s σ H xs us Q I r q => by
  obtain ⟨p, ys, e, hl, q⟩ := q
  exact call_tuple_of pins s σ H xs us Q I r ⟨p, ys, e, .inl ⟨hl, q⟩⟩
end
end Sf
/-! ### sorted texts -/
namespace Sf
open PySem PySem.Spec PyProof.Rows L2
theorem lt_eq : ∀ {a b : List Nat}, ltCps a b = false → ltCps b a = false → a = b
  | [], [], _, _ => rfl
  | [], _ :: _, h, _ => by cases h
  | _ :: _, [], _, h => by cases h
  | x :: r, y :: t, h, k => by
    simp only [ltCps, Bool.or_eq_false_iff, decide_eq_false_iff_not, Bool.and_eq_false_iff, beq_eq_false_iff_ne] at h k
    have e : x = y := by omega
    subst e
    rw [lt_eq (h.2.resolve_left fun z => z rfl) (k.2.resolve_left fun z => z rfl)]
theorem lt_asym : ∀ {a b : List Nat}, ltCps a b = true → ltCps b a = false
  | [], [], h => by cases h
  | [], _ :: _, _ => rfl
  | _ :: _, [], h => by cases h
  | x :: r, y :: t, h => by
    simp only [ltCps, Bool.or_eq_true, decide_eq_true_iff, Bool.and_eq_true, beq_iff_eq] at h
    simp only [ltCps, Bool.or_eq_false_iff, decide_eq_false_iff_not, Bool.and_eq_false_iff, beq_eq_false_iff_ne]
    rcases h with h | ⟨h, k⟩
    · exact ⟨by omega, .inl (by omega)⟩
    · exact ⟨by omega, .inr (lt_asym k)⟩
theorem le_trans' : ∀ {a b c : List Nat}, ltCps b a = false → ltCps c b = false → ltCps c a = false
  | [], _, [], _, _ => rfl
  | _ :: _, _, [], h, k => by
    rename_i b
    cases b with
    | nil => cases h
    | cons => cases k
  | [], _, _ :: _, _, _ => rfl
  | x :: r, [], z :: u, h, _ => by cases h
  | x :: r, y :: t, z :: u, h, k => by
    simp only [ltCps, Bool.or_eq_false_iff, decide_eq_false_iff_not, Bool.and_eq_false_iff, beq_eq_false_iff_ne] at h k ⊢
    refine ⟨by omega, ?_⟩
    by_cases e : z = x
    · right
      have e1 : y = x := by omega
      subst e1 e
      exact le_trans' (h.2.resolve_left fun z => z rfl) (k.2.resolve_left fun z => z rfl)
    · exact .inl e
/-- a is not behind b -/
def leS (a b : Str) : Bool := !ltCps b.cps.toList a.cps.toList
theorem leS_trans {a b c : Str} (h : leS a b = true) (k : leS b c = true) : leS a c = true := by
  unfold leS at *
  rw [Bool.not_eq_true'] at *
  exact le_trans' h k
theorem leS_eq {a b : Str} (h : leS a b = true) (k : leS b a = true) : a = b := by
  unfold leS at *
  rw [Bool.not_eq_true'] at *
  have := lt_eq k h
  obtain ⟨⟨a⟩⟩ := a
  obtain ⟨⟨b⟩⟩ := b
  rw [show a = b from this]
theorem leS_total {a b : Str} (h : leS a b = false) : leS b a = true := by
  unfold leS at *
  rw [Bool.not_eq_false'] at h
  rw [lt_asym h, Bool.not_false]
def insS (x : Str) : List Str → List Str
  | [] => [x]
  | y :: r => if leS x y = true then x :: y :: r else y :: insS x r
def srt : List Str → List Str
  | [] => []
  | x :: r => insS x (srt r)
theorem insS_perm (x : Str) : ∀ l, (insS x l).Perm (x :: l)
  | [] => .refl _
  | y :: r => by
    unfold insS
    split
    · exact .refl _
    · exact ((insS_perm x r).cons y).trans (.swap x y r)
theorem srt_perm : ∀ l, (srt l).Perm l
  | [] => .refl _
  | x :: r => (insS_perm x (srt r)).trans ((srt_perm r).cons x)
def Up (l : List Str) : Prop := l.Pairwise fun a b => leS a b = true
theorem insS_up (x : Str) : ∀ {l}, Up l → Up (insS x l)
  | [], _ => List.pairwise_singleton _ _
  | y :: r, h => by
    have h1 := List.pairwise_cons.mp h
    unfold insS
    split
    · rename_i q
      refine List.pairwise_cons.mpr ⟨fun z hz => ?_, h⟩
      rcases List.mem_cons.mp hz with rfl | hz
      · exact q
      · exact leS_trans q (h1.1 z hz)
    · rename_i q
      refine List.pairwise_cons.mpr ⟨fun z hz => ?_, insS_up x h1.2⟩
      rcases List.mem_cons.mp ((insS_perm x r).mem_iff.mp hz) with rfl | hz
      · exact leS_total (by simpa using q)
      · exact h1.1 z hz
theorem srt_up : ∀ l, Up (srt l)
  | [] => .nil
  | x :: r => insS_up x (srt_up r)
theorem rising_up : ∀ {p : Str} {l : List Str}, risingS p l = true → Up (p :: l)
  | p, [], _ => List.pairwise_singleton _ _
  | p, x :: r, h => by
    have h2 : (!ltCps x.cps.toList p.cps.toList && risingS x r) = true := h
    obtain ⟨h3, h4⟩ := Bool.and_eq_true_iff.mp h2
    have h5 := rising_up h4
    refine List.pairwise_cons.mpr ⟨fun z hz => ?_, h5⟩
    rcases List.mem_cons.mp hz with rfl | hz
    · exact h3
    · exact leS_trans h3 ((List.pairwise_cons.mp h5).1 z hz)
theorem sortedS_up {l : List Str} (h : sortedS l = true) : Up l := by
  cases l with
  | nil => exact .nil
  | cons x r => exact rising_up h
theorem up_eq {a b : List Str} (h : Up a) (k : Up b) (p : a.Perm b) : a = b :=
  List.Perm.eq_of_pairwise (fun _ _ _ _ h1 h2 => leS_eq h1 h2) h k p
theorem srt_of {ys xs : List Str} (p : ys.Perm xs) (h : sortedS ys = true) : ys = srt xs := up_eq (sortedS_up h) (srt_up xs) (p.trans (srt_perm xs).symm)
theorem srt_self {l : List Str} (h : Up l) : srt l = l := up_eq (srt_up l) h (srt_perm l)
theorem srt_congr {a b : List Str} (p : a.Perm b) : srt a = srt b := up_eq (srt_up a) (srt_up b) ((srt_perm a).trans (p.trans (srt_perm b).symm))
/-! a dict with text keys -/
def kvL (val : Str → V) (ks : List Str) : List (Key × V) := ks.map fun z => (Sum.inr z, val z)
theorem kvL_keys (val : Str → V) (ks : List Str) : (kvL val ks).map (·.1) = ks.map Sum.inr := by unfold kvL; rw [List.map_map] <;> rfl
theorem kvL_len (val : Str → V) (ks : List Str) : (kvL val ks).length = ks.length := List.length_map _
theorem kvL_get (val : Str → V) (z : Str) : ∀ ks : List Str, valV (kvL val ks) (Sum.inr z) = if z ∈ ks then some (val z) else none
  | [] => rfl
  | y :: r => by
    by_cases e : y = z
    · subst e
      rw [if_pos List.mem_cons_self]
      exact valV_pos rfl
    · have h : valV (kvL val (y :: r)) (Sum.inr z) = valV (kvL val r) (Sum.inr z) := valV_neg fun q => e (Sum.inr.inj q)
      rw [h, kvL_get val z r]
      by_cases hz : z ∈ r
      · rw [if_pos hz, if_pos (List.mem_cons_of_mem _ hz)]
      · rw [if_neg hz, if_neg fun q => (List.mem_cons.mp q).elim (fun q => e q.symm) hz]
theorem kvL_new (val : Str → V) {ks : List Str} {z : Str} (v : V) (h : z ∉ ks) : putK (kvL val ks) (Sum.inr z) v = kvL (fun y => if y = z then v else val y) (ks ++ [z]) := by
  rw [putK_new v (by rw [kvL_get, if_neg h])]
  unfold kvL
  rw [List.map_append]
  congr 1
  · refine List.map_congr_left fun y hy => ?_
    have e : y ≠ z := fun e => h (e ▸ hy)
    show (Sum.inr y, val y) = (Sum.inr y, if y = z then v else val y)
    rw [if_neg e]
  · show [(Sum.inr z, v)] = [(Sum.inr z, if z = z then v else val z)]
    rw [if_pos rfl]
theorem kvL_drop (val : Str → V) (z : Str) (ks : List Str) : dropK (kvL val ks) (Sum.inr z) = kvL val (ks.filter fun y => decide (y ≠ z)) := by
  unfold dropK kvL
  rw [List.filter_map]
  congr 1
  refine List.filter_congr fun y _ => ?_
  show decide ((Sum.inr y : Key) ≠ Sum.inr z) = decide (y ≠ z)
  rw [decide_eq_decide]
  exact ⟨fun h q => h (congrArg Sum.inr q), fun h q => h (Sum.inr.inj q)⟩
end Sf
/-! ### loops whose bodies leave what stood; dict walks; dict comprehensions -/
namespace Sf
open PySem PySem.Spec PyProof.Rows L2
theorem forP {J : It} {xs : List V} {G : Hp → Prop} (w : Walk J xs.length G (YAt xs)) {j : Nat} {tb : TS} {D : Ends} {σ : L2.St} {H : Hp} {v0 : Option V} (hj : σ[j]? = some v0) (hG : ∀ H', Same H H' → G H')
    (hb : ∀ x H' (N : L2.St → Hp → Prop), x ∈ xs → Same H H' → (∀ H2, Same H' H2 → N (σ.set j (some x)) H2) → tb { D with nx := N, ct := N, bk := D.nx } (σ.set j (some x)) H')
    (hd : ∀ v H', Same H H' → D.nx (σ.set j v) H') : ForK J (gName j) tb D σ H := by
  refine forK w (fun _ σ' H' => Same H H' ∧ ∃ v, σ' = σ.set j v) ⟨.refl _, v0, ?_⟩ (fun _ _ H' _ e => hG H' e.1) (fun i x σ' H1 H2 hi e y => ?_) fun σ' H' e => ?_
  · obtain ⟨hl, e⟩ := List.getElem?_eq_some_iff.mp hj
    rw [← e, List.set_getElem_self]
  · obtain ⟨s1, v, rfl⟩ := e
    obtain ⟨rfl, hx⟩ := y
    show tb _ ((σ.set j v).set j (some x)) _
    rw [List.set_set]
    exact hb x _ _ (List.mem_of_getElem? hx) s1 fun H2 s2 => ⟨s1.trans s2, _, rfl⟩
  · obtain ⟨s1, v, rfl⟩ := e
    exact hd v _ s1
theorem walk_kn {d : Addr} {o : Obj} {val : Str → V} {ks : List Str} : Walk (Itk d o (kvL val ks)) (ks.map V.str).length (fun H => H d = some (.frz o (.dK (kvL val ks)))) (YAt (ks.map V.str)) := by
  rw [List.length_map, ← kvL_len val ks]
  refine walk_keys.mono (fun _ h => h) fun i H x H' hi _ y => ?_
  obtain ⟨rfl, k, v, hk, rfl⟩ := y
  refine ⟨rfl, ?_⟩
  unfold kvL at hk
  rw [List.getElem?_map] at hk ⊢
  cases h : ks[i]? with
  | none => rw [h] at hk; cases hk
  | some z => rw [h] at hk; cases hk; rfl
theorem same_unlock {H H' : Hp} {d : Addr} {u : HO} {f : HO} (h : H d = some u) (s : Same (upd H d f) H') : Same H (upd H' d u) := fun b o e => by
  by_cases hb : b = d
  · subst hb
    rw [upd_same, ← e, h]
  · rw [upd_ne hb]
    exact s _ _ (by rw [upd_ne hb]; exact e)
theorem lockN {kd : Addr} {val : Str → V} {ks : List Str} {td : TE} {j : Nat} {tb : TS} {D : Ends} {σ : L2.St} {H : Hp} {v0 : Option V} (hj : σ[j]? = some v0) (hk : H kd = some (.dK (kvL val ks)))
    (htd : ∀ (od : Obj) (R : VK), R (.ref kd) (upd H kd (.frz od (.dK (kvL val ks)))) → td σ (upd H kd (.frz od (.dK (kvL val ks)))) R)
    (hb : ∀ (od : Obj) z H' (E : Ends), z ∈ ks → Same (upd H kd (.frz od (.dK (kvL val ks)))) H' → (∀ H2, Same H' H2 → E.nx (σ.set j (some (.str z))) H2) → tb E (σ.set j (some (.str z))) H')
    (hd : ∀ v H', Same H H' → D.nx (σ.set j v) H') : tLock (tFor (iKeys td) (gName j) tb) D σ H := by
  refine ⟨kd, _, hk, trivial, fun od => htd od _ ⟨kd, od, rfl, .inl ⟨_, upd_same, ?_⟩⟩⟩
  refine forP walk_kn hj (fun H' s => s _ _ upd_same) (fun x H' N hx s1 hN => ?_) fun v H' s1 => ⟨s1 _ _ upd_same, hd v _ (same_unlock hk s1)⟩
  obtain ⟨z, hz, rfl⟩ := List.mem_map.mp hx
  exact hb od z H' _ hz s1 hN
theorem lockEN {kd : Addr} {val : Str → V} {ks : List Str} {td te : TE} {tt : TT} {vs : List Nat} {g : TG} {σ : L2.St} {H : Hp} {Q : VK} (hk : H kd = some (.dK (kvL val ks)))
    (htd : ∀ (od : Obj) (R : VK), R (.ref kd) (upd H kd (.frz od (.dK (kvL val ks)))) → td σ (upd H kd (.frz od (.dK (kvL val ks)))) R)
    (h : ∀ od : Obj, LcK (Itk kd od (kvL val ks)) g tt te vs σ (fun v H' => H' kd = some (.frz od (.dK (kvL val ks))) ∧ Q v (upd H' kd (.dK (kvL val ks)))) (upd H kd (.frz od (.dK (kvL val ks))))) : tLockE (tLc (iKeys td) g tt te vs) σ H Q :=
  ⟨kd, _, hk, trivial, fun od => htd od _ ⟨kd, od, rfl, .inl ⟨_, upd_same, h od⟩⟩⟩
/-- {z: f z for z in xs} -/
theorem dcG {J : It} {xs : List Str} {G : Hp → Prop} (w : Walk J (xs.map V.str).length G (YAt (xs.map V.str))) {j : Nat} {tk tv : TE} {vs : List Nat} {σ : L2.St} {H0 : Hp} {Q : VK} (val : Str → V) (hz : xs.length ≤ 100000) (nd : xs.Nodup)
    (hw : ∀ x, wipe ((wipe σ vs).set j (some x)) vs = wipe σ vs) (hG : ∀ H', Same H0 H' → G H')
    (hk : ∀ x H' (R : VK), x ∈ xs → Same H0 H' → R (.str x) H' → tk ((wipe σ vs).set j (some (.str x))) H' R)
    (hv : ∀ x H' (R : VK), x ∈ xs → Same H0 H' → R (val x) H' → tv ((wipe σ vs).set j (some (.str x))) H' R)
    (hq : ∀ D H', H0 D = none → Same H0 H' → H' D = some (.dK (kvL val xs)) → Q (.ref D) H') : DcK J (gName j) tYes tk tv vs σ Q H0 := by
  intro D hD
  have up : ∀ {H' : Hp} {o : HO}, Same H0 H' → Same H0 (upd H' D o) := fun s b u e => by
    rw [upd_ne (ne_of_none e hD)]; exact s b u e
  refine ⟨fun i m H' => m = xs.length - i ∧ i ≤ xs.length ∧ Same H0 H' ∧ H' D = some (.dK (kvL val (xs.take i))), ⟨_, rfl, Nat.zero_le _, same_upd hD, upd_same⟩, ?_⟩
  rintro i m H' ⟨rfl, hi, s1, e1⟩
  by_cases hlt : i < xs.length
  · refine .inr ⟨w.goes i H' (by rw [List.length_map]; exact hlt) (hG _ s1), fun H' => Same H0 H' ∧ H' D = some (.dK (kvL val (xs.take (i + 1)))), fun H2 h2 => ⟨xs.length - (i + 1), by omega, rfl, hlt, h2⟩, fun x H2 y => ?_⟩
    obtain ⟨rfl, hx⟩ := w.yields i H' x H2 (by rw [List.length_map]; exact hlt) (hG _ s1) y
    rw [List.getElem?_map] at hx
    cases q : xs[i]? with
    | none => rw [q] at hx; cases hx
    | some z =>
      rw [q] at hx
      obtain rfl : V.str z = x := Option.some.inj hx
      have hm := List.mem_of_getElem? q
      have nz : z ∉ xs.take i := fun h => by
        obtain ⟨k, hk1, hk2⟩ := List.mem_iff_getElem.mp h
        rw [List.getElem_take] at hk2
        rw [List.length_take] at hk1
        obtain ⟨hi2, q2⟩ := List.getElem?_eq_some_iff.mp q
        have := (List.getElem_inj nd).mp (hk2.trans q2.symm)
        omega
      refine ⟨hw _, ?_⟩
      simp only [tYes, ↓reduceIte]
      refine hk z _ _ hm s1 (hv z _ _ hm s1 ⟨_, Sum.inr z, rfl, e1, ?_, up s1, ?_⟩)
      · rw [kvL_len, List.length_take, sizeLine_eq]; omega
      · rw [upd_same, kvL_new _ _ nz, List.take_add_one, q]
        congr 2
        unfold kvL
        refine List.map_congr_left fun y hy => ?_
        show (Sum.inr y, if y = z then val z else val y) = (Sum.inr y, val y)
        by_cases e : y = z
        · rw [if_pos e, e]
        · rw [if_neg e]
  · have e : i = xs.length := by omega
    subst e
    rw [List.take_length] at e1
    refine .inl ⟨?_, hq D H' hD s1 e1⟩
    have := w.stops H' (hG _ s1)
    rw [List.length_map] at this
    exact this
/-- a comprehension of which only the length counts -/
theorem lcN {J : It} {xs : List V} {G : Hp → Prop} (w : Walk J xs.length G (YAt xs)) {j : Nat} {te : TE} {vs : List Nat} {σ : L2.St} {H0 : Hp} {Q : VK} (hz : xs.length ≤ 100000)
    (hw : ∀ x, wipe ((wipe σ vs).set j (some x)) vs = wipe σ vs) (hG : ∀ H', Same H0 H' → G H')
    (hte : ∀ x H' (R : VK), x ∈ xs → Same H0 H' → (∀ y H2, Same H' H2 → R y H2) → te ((wipe σ vs).set j (some x)) H' R)
    (hq : ∀ D H' acc, Same H0 H' → H' D = some (.lst acc) → acc.length = xs.length → Q (.ref D) H') : LcK J (gName j) tYes te vs σ Q H0 := by
  intro D hD
  have up : ∀ {H' : Hp} {o : HO}, Same H0 H' → Same H0 (upd H' D o) := fun s b u e => by
    rw [upd_ne (ne_of_none e hD)]; exact s b u e
  refine lc_it w (Pv := fun i H' => Same H0 H' ∧ ∃ acc, H' D = some (.lst acc) ∧ acc.length = i) ⟨same_upd hD, [], upd_same, rfl⟩ (fun i H' _ e => hG _ e.1) (fun i x H H' hi e y => ?_) (fun H e => ?_)
  · obtain ⟨rfl, hx⟩ := y
    obtain ⟨e1, acc, e2, e3⟩ := e
    refine ⟨hw x, ?_⟩
    simp only [tYes, ↓reduceIte]
    refine hte x _ _ (List.mem_of_getElem? hx) e1 fun y H2 s2 => ⟨acc, s2 _ _ e2, ?_, up (e1.trans s2), acc ++ [y], upd_same, ?_⟩
    · rw [e3, sizeLine_eq]; omega
    · rw [List.length_append, e3] <;> rfl
  · obtain ⟨e1, acc, e2, e3⟩ := e
    exact hq D H acc e1 e2 e3
/-- all but what stands at x -/
def SX (x : Addr) (H H' : Hp) : Prop := ∀ b o, H b = some o → b ≠ x → H' b = some o
theorem SX.of {x : Addr} {H H' : Hp} (s : Same H H') : SX x H H' := fun b o e _ => s b o e
theorem SX.trans {x : Addr} {H H1 H2 : Hp} (a : SX x H H1) (b : SX x H1 H2) : SX x H H2 := fun c o e n => b c o (a c o e n) n
theorem SX.upd {x : Addr} {H : Hp} {o : HO} : SX x H (upd H x o) := fun b u e n => by rw [upd_ne n]; exact e
def NT (H : Hp) (x : Addr) : Prop := ∀ xs, ¬ Rd H x (.tup xs)
theorem nt_ins {H : Hp} {x C dx : Addr} {fs : List (Str × V)} (h : H x = some (.ins C dx fs)) : NT H x := fun xs r => by
  rcases r with r | ⟨o, r⟩ <;> (rw [h] at r; cases r)
theorem nt_dK {H : Hp} {x : Addr} {kvs : List (Key × V)} (h : H x = some (.dK kvs)) : NT H x := fun xs r => by
  rcases r with r | ⟨o, r⟩ <;> (rw [h] at r; cases r)
theorem nt_lst {H : Hp} {x : Addr} {ys : List V} (h : H x = some (.lst ys)) : NT H x := fun xs r => by
  rcases r with r | ⟨o, r⟩ <;> (rw [h] at r; cases r)
theorem SX.tup {K : PySem.W.Frag} {x a : Addr} {xs : List V} {H H' : Hp} (s : SX x H H') (n : NT H x) (h : SqT K H a xs) : SqT K H' a xs := by
  refine h.imp (fun r => ?_) id
  have hx : a ≠ x := fun e => n xs (e ▸ r)
  exact r.imp (fun e => s _ _ e hx) fun ⟨o, e⟩ => ⟨o, s _ _ e hx⟩
end Sf
/-! ### a table of the top; a def as FnOk -/
namespace Sf
open PySem PySem.Spec PyProof.Rows L2
theorem ix_kd {X : Cx} {d : Addr} {es : Array DictEntry} {n : Nat} (D : KDict X.K X.w d es n) : IxR X (fun x y H Q => ∃ (z : Str) (u0 : Value) (v0 : V), x = .ref d ∧ y = .str z ∧ PySem.W.nsIn X.K d z = some (some u0) ∧ RelV v0 u0 ∧ Q v0 H) := by
  intro value slice pins s σ H x y v u Q I rx ry h hs
  have g := op_item_kd D pins s σ H x y v u Q I rx ry h
  obtain ⟨z, u0, v0, rfl, rfl, _⟩ := h
  cases rx
  exact tail_any (kd_type D I) PySem.F.slot_dict_getitem.lookup g hs
/-- l == m, two lists of unlike lengths -/
def rEqL (K : PySem.W.Frag) : R2 := fun x y H Q => ∃ a b xs ys, x = .ref a ∧ y = .ref b ∧ SqL K H a xs ∧ SqL K H b ys ∧ xs.length ≠ ys.length ∧ Q (.bl false) H
theorem op_eqLen {X : Cx} (hu : X.A.units < cLine) : OpR X (compareOp .Eq) (rEqL X.K) := by
  intro pins s σ H x y v u Q I rx ry h
  obtain ⟨a, b, xs, ys, rfl, rfl, ha, hb, hn, q⟩ := h
  cases rx
  cases ry
  obtain ⟨its, r1, p1, _⟩ := I.list ha
  obtain ⟨its2, r2, p2, _⟩ := I.list hb
  refine PySem.SeqAt.eq_list_lengthsAt p1.isList p2.isList ?_ hu ⟨.bl false, H, I, rfl, q⟩
  have e1 := r1.length
  have e2 := r2.length
  rw [bne_iff_ne, List.size_toArray, List.size_toArray]
  omega
section
variable {P : Program} {w : World} {K : PySem.W.Frag} {mg : Str → Option Value} {base : Heap}
theorem mkOk {x qual : Str} {st : Stmt} {kws : List (Str × V)} {f : Addr} {N ps : List Str} {k : Nat} {sp : Sp} (F : Fn K x qual st kws f) (S : FnScope N ps (defScope st)) (len : ∀ vs H Q E, sp vs H Q E → vs.length = ps.length)
    (hbody : ∀ (cdv : Value) (A : Around) (outer : List Env) (s : Shared) (H : Hp) (vs : List V) (Q : VK) (E : XK), Room k (A.deeper (envOfC qual (defScope st) s.heap.objs.size f cdv)) → sp vs H Q E →
      ∃ t, PSs (cxOf (L2.CX P w) P w K mg base N qual (defScope st) f cdv A outer s H E) (defBody st) t ∧ t { nx := fun _ H' => Q .non H', rt := Q } (start N vs) H) :
    ∃ fd, FunD K x qual (defArgs st) (defBody st) (defScope st) [] kws f fd ∧ FnOk P w K mg base (L2.CX P w) (k + 1) f fd ps sp := by
  obtain ⟨fd, F⟩ := F
  exact ⟨fd, F, F.ok S len hbody⟩
theorem bindsOk {x qual : Str} {st : Stmt} {f : Addr} {fd : FuncData} {ps : List Str} (F : FunD K x qual (defArgs st) (defBody st) (defScope st) [] [] f fd)
    (hb : ∀ (kV doc pm : Value) (an : Option Addr) (cdv ct : Value) (us : List Value), us.length = ps.length → bindArgs (PySem.W.fnOf x qual (defArgs st) (defBody st) (defScope st) .none kV doc pm an cdv ct) ⟨us, []⟩ = pure (ps.zip us)) : Binds K fd ps [] := F.bindsN hb
end
end Sf
/-! ### further makers of promises; zip of tuples; one-turn comprehensions -/
namespace Sf
open PySem PySem.Spec PyProof.Rows L2
section
variable {P : Program} {w : World} {K : PySem.W.Frag} {mg : Str → Option Value} {base : Heap}
/-- def f(a, *rest) -/
theorem mkRs {x qual pv : Str} {st : Stmt} {f : Addr} {N ps : List Str} {k : Nat} {sp : Sp} (F : Fn K x qual st [] f) (S : FnScope N (ps ++ [pv]) (defScope st))
    (hb : ∀ (kV doc pm : Value) (an : Option Addr) (cdv ct : Value) (us rest : List Value), us.length = ps.length → bindArgs (PySem.W.fnOf x qual (defArgs st) (defBody st) (defScope st) .none kV doc pm an cdv ct) ⟨us ++ rest, []⟩ = (newTuple rest >>= fun t => pure (ps.zip us ++ [(pv, t)])))
    (hbody : ∀ (cdv : Value) (A : Around) (outer : List Env) (s : Shared) (H : Hp) (vs : List V) (Q : VK) (E : XK), Room k (A.deeper (envOfC qual (defScope st) s.heap.objs.size f cdv)) → sp vs H Q E →
      ∃ t, PSs (cxOf (L2.CX P w) P w K mg base N qual (defScope st) f cdv A outer s H E) (defBody st) t ∧ t { nx := fun _ H' => Q .non H', rt := Q } (start N vs) H) :
    FnR P w K mg base (L2.CX P w) (k + 1) f (fun vs H Q E => ∃ ws rest, vs = ws ++ rest ∧ ws.length = ps.length ∧ rest.length ≤ sizeLine ∧ ∀ p, H p = Option.none → sp (ws ++ [V.ref p]) (upd H p (.tup rest)) Q E) := by
  obtain ⟨fd, F⟩ := F
  obtain ⟨oc, od, dV, kV, doc, pm, an, cdv, ct, osl, rfl, lk, hcd, hD, _⟩ := F.ex
  rcases hD with ⟨_, rfl⟩ | ⟨e, _⟩
  · exact StX.fn_star lk hcd S StX.cxUp (hb kV doc pm an cdv ct) (hbody cdv)
  · exact absurd rfl e
/-- def f(a, .., *, k=d): called without keywords -/
theorem mkRk {x qual : Str} {st : Stmt} {f : Addr} {N ps : List Str} {k n : Nat} {sp : Sp} {kws : List (Str × V)} (F : Fn K x qual st kws f) (S : FnScope N ps (defScope st)) (hk : kws ≠ []) (hn : n + kws.length = ps.length)
    (hb : ∀ (D : Addr) (doc pm : Value) (an : Option Addr) (cdv ct : Value) (us ks : List Value), us.length = n → ks.length = kws.length → KwChain D ((kws.map (·.1)).zip ks) (bindArgs (PySem.W.fnOf x qual (defArgs st) (defBody st) (defScope st) .none (.ref D) doc pm an cdv ct) ⟨us, []⟩) (ps.zip (us ++ ks)))
    (len : ∀ vs H Q E, sp vs H Q E → vs.length = ps.length)
    (hbody : ∀ (cdv : Value) (A : Around) (outer : List Env) (s : Shared) (H : Hp) (vs : List V) (Q : VK) (E : XK), Room k (A.deeper (envOfC qual (defScope st) s.heap.objs.size f cdv)) → sp vs H Q E →
      ∃ t, PSs (cxOf (L2.CX P w) P w K mg base N qual (defScope st) f cdv A outer s H E) (defBody st) t ∧ t { nx := fun _ H' => Q .non H', rt := Q } (start N vs) H) :
    FnR P w K mg base (L2.CX P w) (k + 1) f (fun vs H Q E => sp (vs ++ kws.map (·.2)) H Q E) := by
  obtain ⟨fd, F⟩ := F
  obtain ⟨ds, hd, hB⟩ := F.binds0 n hk hn hb
  have G : FnOk P w K mg base (L2.CX P w) (k + 1) f fd ps sp := F.ok S len hbody
  exact G.raw hB hd
end
theorem kpg {X : Cx} {K : PySem.W.Frag} {n : Nat} {e : Expr} {t : TGs} (h : PG X e (gTup X.K n t)) (hK : X.K = K := by rfl) : PG X e (gTup K n t) := hK ▸ h
theorem kpiT {X : Cx} {K : PySem.W.Frag} {tg e : Expr} {td : TE} (h : PI X tg e (iTup X.K td)) (hK : X.K = K := by rfl) : PI X tg e (iTup K td) := hK ▸ h
theorem kpiL {X : Cx} {K : PySem.W.Frag} {tg e : Expr} {td : TE} (h : PI X tg e (iList X.K td)) (hK : X.K = K := by rfl) : PI X tg e (iList K td) := hK ▸ h
theorem walk_zipT {K : PySem.W.Frag} {a b : Addr} {xs ys : List V} {n : Nat} (hn : n = min xs.length ys.length) : Walk (RZ.ItzT K a b) n (fun H => SqT K H a xs ∧ SqT K H b ys) (YPair (fun i => xs[i]?) (fun i => ys[i]?)) := by
  subst hn
  refine ⟨fun i _ hi q => ?_, fun _ q => ⟨xs, ys, q.1, q.2, by omega⟩, fun i H v H' _ q y => ?_⟩
  · have h1 : i < xs.length := by omega
    have h2 : i < ys.length := by omega
    exact ⟨xs, ys, xs[i], ys[i], q.1, q.2, List.getElem?_eq_getElem h1, List.getElem?_eq_getElem h2⟩
  · obtain ⟨T, x, z, h1, h2, h3, h4, h5⟩ := y
    exact ⟨T, x, z, h1, h2, h3, h4 xs q.1, h5 ys q.2⟩
/-- a comprehension of one turn -/
theorem lc1 {J : It} {G : Hp → Prop} {x : V} (w : Walk J 1 G (YAt [x])) {g : TG} {tt : TT} {te : TE} {vs : List Nat} {σ : L2.St} {H0 : Hp} {Q : VK} (hG : ∀ H', Same H0 H' → G H')
    (hs : ∀ D, H0 D = none → g x (wipe σ vs) (upd H0 D (.lst [])) fun σ2 H2 => wipe σ2 vs = wipe σ vs ∧ tt σ2 H2 fun b H3 => if b = true then te σ2 H3 fun y H4 => ∃ acc, H4 D = some (.lst acc) ∧ acc.length < sizeLine ∧ Same H0 (upd H4 D (.lst (acc ++ [y]))) ∧ Q (.ref D) (upd H4 D (.lst (acc ++ [y]))) else Same H0 H3 ∧ Q (.ref D) H3) :
    LcK J g tt te vs σ Q H0 := by
  intro D hD
  refine lc_it w (Pv := fun i H' => match i with | 0 => H' = upd H0 D (.lst []) | _ + 1 => Same H0 H' ∧ Q (.ref D) H') rfl (fun i H' hi e => ?_) (fun i y H H' hi e hy => ?_) (fun H e => e.2)
  · match i, e with
    | 0, e => rw [e]; exact hG _ (same_upd hD)
    | _ + 1, e => exact hG _ e.1
  · obtain rfl : i = 0 := by omega
    obtain ⟨rfl, hy⟩ := hy
    obtain rfl : x = y := Option.some.inj hy
    have e2 : H' = upd H0 D (.lst []) := e
    subst e2
    exact hs D hD
end Sf
/-! ### own rule: try with clauses that miss, then one that takes the exception by a name -/
namespace Sf
open PySem PySem.Spec PyProof.Rows L2
theorem flyK {base h h2 : Heap} {l : List Env} {e : Addr} {Z : Obj → Prop} (x : HandSPX.FlyingZ base l e Z h) (k : ∀ b o, h.get? b = some o → h2.get? b = some o) : HandSPX.FlyingZ base l e Z h2 := by
  obtain ⟨x1, x2, x3, oe, ws, T, oT, ts, y1, y2, y3, y4, y5, y6, y7, y8, y9⟩ := x
  exact ⟨fun b o q => k b o (x1 b o q), x2, x3.of_keeps fun b o q _ => ⟨o, k b o q, rfl⟩, oe, ws, T, oT, ts, k _ _ y1, y2, y3, y4, y5, y6, k _ _ y7, y8, y9⟩
theorem upK {h h2 : Heap} (k : ∀ b o, h.get? b = some o → h2.get? b = some o) : h.UpToSlots h2 := fun b o q _ => ⟨o.slots, k b o q⟩
open PySem.W in
/-- five classes, none of them -/
theorem exm5 {K : Frag} {M : Model} {c1 c2 c3 c4 c5 cls : Value} {tp e : Addr} {h : Heap} (X : K.In h) (LT : Looks M h (typeOf (.ref e)) cls) (hp : h.get? tp = some { cls := .type "tuple", data := .seq [c1, c2, c3, c4, c5].toArray })
    (x1 : exmOne K cls c1 = some false) (x2 : exmOne K cls c2 = some false) (x3 : exmOne K cls c3 = some false) (x4 : exmOne K cls c4 = some false) (x5 : exmOne K cls c5 = some false) : Looks M h (excMatches (.ref e) (.ref tp)) false := by
  intro A Q E s k0 q
  obtain ⟨hh, g, d, tk, os⟩ := s
  have k : ∀ b o, h.get? b = some o → hh.get? b = some o := k0
  have L0 : Looks M h (isInstance (.ref tp) (.type "tuple")) true := ((Looks.ld hp).andThen .now).andThen (Looks.of_pure isSubtype_tuple_tuple)
  obtain ⟨e1, S1⟩ := exm_cls (M := M) X x1
  obtain ⟨e2, S2⟩ := exm_cls (M := M) X x2
  obtain ⟨e3, S3⟩ := exm_cls (M := M) X x3
  obtain ⟨e4, S4⟩ := exm_cls (M := M) X x4
  obtain ⟨e5, S5⟩ := exm_cls (M := M) X x5
  have e1 := e1.keeps k
  have e2 := e2.keeps k
  have e3 := e3.keeps k
  have e4 := e4.keeps k
  have e5 := e5.keeps k
  have S1 := S1.keeps k
  have S2 := S2.keeps k
  have S3 := S3.keeps k
  have S4 := S4.keeps k
  have S5 := S5.keeps k
  have L1 := LT.keeps k
  have L2 := L0.keeps k
  have hp2 := k _ _ hp
  unfold excMatches
  refine wpAny_bind (L2.at ?_)
  dsimp only
  rw [if_pos rfl]
  first
    | refine wpAny_bind (wpAny_seqItems hp2 rfl ?_)
    | refine wpAny_bind (wpAny_bind (wpAny_seqItems hp2 rfl (wpAny_pure ?_)))
  dsimp only [Option.getD_some, Option.getD]
  repeat (first | simp only [List.forIn_cons, List.forIn_nil, Bool.not_true, Bool.false_eq_true, if_false, if_true] | lk)
  exact q
/-- the clause's expression, asked of an exception of the class cls, says b -/
def XTest (X : Cx) (cls : Value) (t : Expr) (b : Bool) : Prop :=
  ∀ (A2 : Around) (Q : Bool → Shared → Prop) (E : Value → Shared → Prop) (a : Addr) (pn : List (Addr × Obj)) (σ : L2.St) (H : Hp) (s : Shared), Inv (X.suite a pn) [] σ H s → PySem.W.Looks (model X.prog X.w) s.heap (typeOf (.ref a)) cls →
    (∀ h2, (∀ q o, s.heap.get? q = some o → h2.get? q = some o) → Q b { s with heap := h2 }) → wpAny (model X.prog X.w) (X.A.mark (some (.ref a))) (eval t X.env) (fun c s1 => wpAny (model X.prog X.w) A2 (excMatches (.ref a) c) Q E s1) E s
section
variable {X : Cx} {cls : Value}
theorem nm_ok {x : Str} {c : Value} {np : Pos} (hc : Names X x c) {Q E : Value → Shared → Prop} {a : Addr} {pn : List (Addr × Obj)} {σ : L2.St} {H : Hp} {s : Shared} (S : Inv (X.suite a pn) [] σ H s) (q : Q c s) : wpAny (model X.prog X.w) (X.A.mark (some (.ref a))) (eval (.Name x np) X.env) Q E s := by
  obtain ⟨g1, g2, g3 | ⟨g3, g4, g5⟩⟩ := hc
  · exact ld_glob (X := X.suite a pn) S g1 g3 q g2
  · exact ld_blt (X := X.suite a pn) S g1 g3 g4 q g5 g2
theorem xt_name {x : Str} {c : Value} {np : Pos} {b : Bool} (hc : Names X x c) (hx : PySem.W.exmOne X.K cls c = some b) : XTest X cls (.Name x np) b := fun A2 Q E a pn σ H s S LT q =>
  nm_ok hc S ((PySem.W.exm_one S.kIn LT hx).here (q s.heap fun _ _ z => z))
theorem xt_tup2 {x1 x2 : Str} {c1 c2 : Value} {p1 p2 tp : Pos} {kk : Nat} {b : Bool} (n1 : Names X x1 c1) (n2 : Names X x2 c2) (hx : PySem.W.exmAny X.K cls [c1, c2] = some b) : XTest X cls (.Tuple [.Name x1 p1, .Name x2 p2] kk tp) b := fun A2 Q E a pn σ H s S LT q => by
  refine wpAny_Tuple (wpAny_items_cons (nm_ok n1 S (wpAny_items_cons (nm_ok n2 S (wpAny_items_nil ⟨by size_fits, ?_⟩)))))
  have k : ∀ q o, s.heap.get? q = some o → (s.heap.push { cls := .type "tuple", data := .seq [c1, c2].toArray }).get? q = some o := fun _ _ z => Heap.get?_push_of_some _ z
  exact (PySem.W.exm_tup2 (S.kIn.keeps k) (LT.keeps k) (Heap.get?_push_size s.heap rfl) hx).here (q _ k)
theorem xt_tup3 {x1 x2 x3 : Str} {c1 c2 c3 : Value} {p1 p2 p3 tp : Pos} {kk : Nat} {b : Bool} (n1 : Names X x1 c1) (n2 : Names X x2 c2) (n3 : Names X x3 c3) (hx : PySem.W.exmAny X.K cls [c1, c2, c3] = some b) : XTest X cls (.Tuple [.Name x1 p1, .Name x2 p2, .Name x3 p3] kk tp) b := fun A2 Q E a pn σ H s S LT q => by
  refine wpAny_Tuple (wpAny_items_cons (nm_ok n1 S (wpAny_items_cons (nm_ok n2 S (wpAny_items_cons (nm_ok n3 S (wpAny_items_nil ⟨by size_fits, ?_⟩)))))))
  have k : ∀ q o, s.heap.get? q = some o → (s.heap.push { cls := .type "tuple", data := .seq [c1, c2, c3].toArray }).get? q = some o := fun _ _ z => Heap.get?_push_of_some _ z
  exact (PySem.W.exm_tup3 (S.kIn.keeps k) (LT.keeps k) (Heap.get?_push_size s.heap rfl) hx).here (q _ k)
theorem xt_tup5 {x1 x2 x3 x4 x5 : Str} {c1 c2 c3 c4 c5 : Value} {p1 p2 p3 p4 p5 tp : Pos} {kk : Nat} (n1 : Names X x1 c1) (n2 : Names X x2 c2) (n3 : Names X x3 c3) (n4 : Names X x4 c4) (n5 : Names X x5 c5)
    (h1 : PySem.W.exmOne X.K cls c1 = some false) (h2 : PySem.W.exmOne X.K cls c2 = some false) (h3 : PySem.W.exmOne X.K cls c3 = some false) (h4 : PySem.W.exmOne X.K cls c4 = some false) (h5 : PySem.W.exmOne X.K cls c5 = some false) :
    XTest X cls (.Tuple [.Name x1 p1, .Name x2 p2, .Name x3 p3, .Name x4 p4, .Name x5 p5] kk tp) false := fun A2 Q E a pn σ H s S LT q => by
  refine wpAny_Tuple (wpAny_items_cons (nm_ok n1 S (wpAny_items_cons (nm_ok n2 S (wpAny_items_cons (nm_ok n3 S (wpAny_items_cons (nm_ok n4 S (wpAny_items_cons (nm_ok n5 S (wpAny_items_nil ⟨by size_fits, ?_⟩)))))))))))
  have k : ∀ q o, s.heap.get? q = some o → (s.heap.push { cls := .type "tuple", data := .seq [c1, c2, c3, c4, c5].toArray }).get? q = some o := fun _ _ z => Heap.get?_push_of_some _ z
  exact (exm5 (S.kIn.keeps k) (LT.keeps k) (Heap.get?_push_size s.heap rfl) h1 h2 h3 h4 h5).here (q _ k)
/-- clauses: some miss, one takes it as the name n (slot i) -/
inductive HG (X : Cx) (cls : Value) (i : Nat) (ts : Addr → Value → Option Addr → TS) : List ExceptHandler → Prop
  | hit {t : Expr} {n : Str} {b0 : Stmt} {su : List Stmt} {p : Pos} {post : List ExceptHandler} (ht : XTest X cls t true) (hi : X.N[i]? = some n) (hl : X.env.kindOf n = some .local)
      (hs : ∀ (a : Addr) (oe : Obj) (d : Option Addr) (pn : List (Addr × Obj)), Zc cls d oe → (∃ vs, oe.data = .fields vs) → PSs (X.suite a ((a, oe) :: pn)) (b0 :: su) (ts a cls d)) : HG X cls i ts (.ExceptHandler (some t) (some n) (b0 :: su) p :: post)
  | miss {t : Expr} {o : Option Str} {su : List Stmt} {p : Pos} {r : List ExceptHandler} (ht : XTest X cls t false) (hr : HG X cls i ts r) : HG X cls i ts (.ExceptHandler (some t) o su p :: r)
def wG (cls : Value) (i : Nat) (ts : Addr → Value → Option Addr → TS) (D : Ends) : WX := fun c d σ H =>
  c = cls ∧ ∀ a, H a = none → ts a cls d { nx := fun σ' H' => D.nx (σ'.set i none) H', rt := D.rt, bk := fun σ' H' => D.bk (σ'.set i none) H', ct := fun σ' H' => D.ct (σ'.set i none) H' } (σ.set i (some (.ref a))) H
theorem ps_tryG {i : Nat} {ts : Addr → Value → Option Addr → TS} {body : List Stmt} {h0 : ExceptHandler} {hds : List ExceptHandler} {tb : WX → TS} {pos : Pos} (hs : X.stack = X.env :: X.outer) (hf : X.env.frame = some X.env.locals) (hN : X.N.Nodup)
    (hb : ∀ (W : WX) (pn : List (Addr × Obj)) (xe : Value → Shared → Prop), Takes (X.tr pn xe) W → PassesOwn (model X.prog X.w) X.A X.env xe → PSs (X.tr pn xe) body (tb W)) (hh : HG X cls i ts (h0 :: hds)) :
    PS X (.Try body (h0 :: hds) [] [] pos) (fun D σ H => tb (wG cls i ts D) D σ H) := by
  refine ⟨fun pins s σ H D I h => ?_⟩
  have ok := I.ok
  have fr : X.A.frames = some (X.env :: X.outer) := by rw [ok.frames, hs]
  refine wpAny_Try_except (wpAny_mono ((hb (wG cls i ts D) (X.pn ++ pins) (fun e s1 => wpAny (model X.prog X.w) X.A (noteFrame e X.env) (fun _ s2 => wpAny (model X.prog X.w) X.A (setFlight e none) (fun _ s3 =>
    wpAny (model X.prog X.w) X.A (handleBy e X.env (h0 :: hds)) (SP X pins D) X.xe s3) X.xe s2) X.xe s1) (fun u s2 z => ?_) PassesOwn.looking).run [] s σ H D (I.toTry _) h) (fun f s1 z => ?_) fun _ _ z => z)
  · obtain ⟨a, B, sI, pins2, σ2, H2, c, d, rfl, J0, nb, up, sky, na, os, ag, rfl, w⟩ := z
    have J : Inv X pins σ2 H2 sI := J0.ofTry ok
    have sk : Sky B (X.env :: X.outer) a (Zc c d) X.env.locals s2.heap := hs ▸ sky
    show wpAny (model X.prog X.w) X.A (noteFrame (.ref a) X.env) _ _ _
    refine Sky.land Zc.steady fr hf sk fun h3 fl3 up3 => ?_
    have go : ∀ {l : List ExceptHandler}, HG X c i ts l → ∀ (hx : Heap), HandSPX.FlyingZ B (X.env :: X.outer) a (Zc c d) hx → sI.heap.UpToSlots hx → wpAny (model X.prog X.w) X.A (handleBy (.ref a) X.env l) (SP X pins D) X.xe { s2 with heap := hx } := by
      intro l hk
      induction hk with
      | @hit t n b0 su p post ht hi hl hsu =>
        intro hx flx ux
        have Jx : Inv X pins σ2 H2 { s2 with heap := hx } := J.landed nb flx.1 ux os ag
        obtain ⟨oe, ws, g1, g2, g3⟩ := flx.there
        have far : a ∉ frs (X.env :: X.outer) := fun hm => by
          obtain ⟨_, o2, q1, q2⟩ := flx.2.2.1.mem hm
          rw [g1] at q1; cases q1
          exact q2 _ g3
        have nL : a ≠ X.env.locals := fun q => far (List.mem_filterMap.mpr ⟨X.env, List.mem_cons_self, by rw [hf, q]⟩)
        have nF : a ∉ X.fs := fun hm => by
          obtain ⟨e, he, q⟩ := List.mem_filterMap.mp hm
          exact far (List.mem_filterMap.mpr ⟨e, List.mem_cons_of_mem _ he, q⟩)
        refine wpAny_handleBy_cons (codeAny_handlers_test ?_) (by intro q; cases q)
        have LT : PySem.W.Looks (model X.prog X.w) hx (typeOf (.ref a)) c := fun A Q E s k q => wpAny_typeOf_ref (k _ _ g1) (by rw [g2.1]; exact q)
        refine ht _ _ _ a _ σ2 H2 _ (Jx.suite g1 g3 na nL nF) LT fun h4 k4 => ?_
        refine codeAny_handlers_suite_as (HandSPX.lands_againZ (flyK flx k4) fun h5 fl5 up5 => ?_)
        have J5 : Inv X pins σ2 H2 { s2 with heap := h5 } := J.landed nb fl5.1 ((ux.trans (upK k4)).trans up5) os ag
        obtain ⟨oe5, ws5, g4, g5, g6⟩ := fl5.there
        refine store_ok (X := X.suite a ((a, oe5) :: (X.pn ++ pins))) (v := .ref a) (J5.suite g4 g6 na nL nF) hN hi (.inl hl) rfl (fun s6 S6 => ?_) (.inr hl)
        refine wpAny_mono ((hsu a oe5 d (X.pn ++ pins) g5 ⟨_, g6⟩).run [] s6 _ H2 _ S6 (w a na)) (fun f s7 z => ?_) fun _ _ z => z.elim
        have fin : ∀ {σ8 : L2.St} {H8 : Hp} {Q : Shared → Prop}, Inv (X.suite a ((a, oe5) :: (X.pn ++ pins))) [] σ8 H8 s7 → (∀ s9, Inv X pins (σ8.set i none) H8 s9 → Q s9) →
            wpAny (model X.prog X.w) X.A (do bindName X.env n .none; unbindBehindTheSuite X.env n p) (fun _ s9 => Q s9) X.xe s7 := fun S8 q => gone_ok (S8.unsuite ok) hN hi hl q
        cases f with
        | next => obtain ⟨σ8, H8, S8, q⟩ := z; exact fin S8 fun s9 J9 => ⟨_, _, J9, q⟩
        | brk => obtain ⟨σ8, H8, S8, q⟩ := z; exact fin S8 fun s9 J9 => ⟨_, _, J9, q⟩
        | cont => obtain ⟨σ8, H8, S8, q⟩ := z; exact fin S8 fun s9 J9 => ⟨_, _, J9, q⟩
        | ret u => obtain ⟨v8, σ8, H8, S8, r8, q⟩ := z; exact fin S8 fun s9 J9 => ⟨_, _, _, J9, r8, q⟩
      | @miss t o su p r ht hr ih =>
        intro hx flx ux
        have Jx : Inv X pins σ2 H2 { s2 with heap := hx } := J.landed nb flx.1 ux os ag
        obtain ⟨oe, ws, g1, g2, g3⟩ := flx.there
        have far : a ∉ frs (X.env :: X.outer) := fun hm => by
          obtain ⟨_, o2, q1, q2⟩ := flx.2.2.1.mem hm
          rw [g1] at q1; cases q1
          exact q2 _ g3
        have nL : a ≠ X.env.locals := fun q => far (List.mem_filterMap.mpr ⟨X.env, List.mem_cons_self, by rw [hf, q]⟩)
        have nF : a ∉ X.fs := fun hm => by
          obtain ⟨e, he, q⟩ := List.mem_filterMap.mp hm
          exact far (List.mem_filterMap.mpr ⟨e, List.mem_cons_of_mem _ he, q⟩)
        refine wpAny_handleBy_cons (codeAny_handlers_test ?_) (by intro q; cases q)
        have LT : PySem.W.Looks (model X.prog X.w) hx (typeOf (.ref a)) c := fun A Q E s k q => wpAny_typeOf_ref (k _ _ g1) (by rw [g2.1]; exact q)
        refine ht _ _ _ a _ σ2 H2 _ (Jx.suite g1 g3 na nL nF) LT fun h4 k4 => ?_
        show wpAny _ X.A (handleBy (.ref a) X.env r) _ _ _
        exact ih h4 (flyK flx k4) (ux.trans (upK k4))
    exact go hh h3 fl3 (up.trans up3)
  · cases f with
    | next => obtain ⟨σ2, H2, J, q⟩ := z; exact wpAny_execs_nil ⟨σ2, H2, J.ofTry ok, q⟩
    | brk => obtain ⟨σ2, H2, J, q⟩ := z; exact ⟨σ2, H2, J.ofTry ok, q⟩
    | cont => obtain ⟨σ2, H2, J, q⟩ := z; exact ⟨σ2, H2, J.ofTry ok, q⟩
    | ret u => obtain ⟨v, σ2, H2, J, r, q⟩ := z; exact ⟨v, σ2, H2, J.ofTry ok, r, q⟩
end
end Sf
/-! ### what is known of the top -/
namespace Sf
open PySem PySem.Spec PyProof.Rows L2
structure Tx (w : World) (K : PySem.W.Frag) (mg : Str → Option Value) : Prop where
  g_is_whole : mg "is_whole" = some (.ref (He.ga K "is_whole"))
  g_origin : mg "origin" = some (.ref (He.ga K "origin"))
  g_add : mg "add" = some (.ref (He.ga K "add"))
  g_is_name : mg "is_name" = some (.ref (He.ga K "is_name"))
  g_is_within : mg "is_within" = some (.ref (He.ga K "is_within"))
  g_has_form : mg "has_form" = some (.ref (He.ga K "has_form"))
  g_fault : mg "fault" = some (.ref (He.ga K "fault"))
  g_check_block : mg "check_block" = some (.ref (He.ga K "check_block"))
  g_inner_blocks : mg "inner_blocks" = some (.ref (He.ga K "inner_blocks"))
  g_statements : mg "statements" = some (.ref (He.ga K "statements"))
  g_names_in : mg "names_in" = some (.ref (He.ga K "names_in"))
  g_renamed : mg "renamed" = some (.ref (He.ga K "renamed"))
  g_is_circular : mg "is_circular" = some (.ref (He.ga K "is_circular"))
  g_measured : mg "measured" = some (.ref (He.ga K "measured"))
  g_measures : mg "measures" = some (.ref (He.ga K "measures"))
  g_check_measure : mg "check_measure" = some (.ref (He.ga K "check_measure"))
  g_product : mg "product" = some (.ref (He.ga K "product"))
  g_term_of : mg "term_of" = some (.ref (He.ga K "term_of"))
  g_statement_trail : mg "statement_trail" = some (.ref (He.ga K "statement_trail"))
  g_block_trail : mg "block_trail" = some (.ref (He.ga K "block_trail"))
  g_trail_of : mg "trail_of" = some (.ref (He.ga K "trail_of"))
  g_part_trail : mg "part_trail" = some (.ref (He.ga K "part_trail"))
  g_check_command : mg "check_command" = some (.ref (He.ga K "check_command"))
  g_check_new : mg "check_new" = some (.ref (He.ga K "check_new"))
  g_defined : mg "defined" = some (.ref (He.ga K "defined"))
  g_renamed_part : mg "renamed_part" = some (.ref (He.ga K "renamed_part"))
  g_dropped : mg "dropped" = some (.ref (He.ga K "dropped"))
  g_changed : mg "changed" = some (.ref (He.ga K "changed"))
  g_is_number : mg "is_number" = some (.ref (He.ga K "is_number"))
  g_tokens_of : mg "tokens_of" = some (.ref (He.ga K "tokens_of"))
  g_parse_block : mg "parse_block" = some (.ref (He.ga K "parse_block"))
  g_about_names : mg "about_names" = some (.ref (He.ga K "about_names"))
  g_names_row : mg "names_row" = some (.ref (He.ga K "names_row"))
  g__law_a_box : mg "_law_a_box" = some (.ref (He.ga K "_law_a_box"))
  g__law_draw : mg "_law_draw" = some (.ref (He.ga K "_law_draw"))
  g__law_whole : mg "_law_whole" = some (.ref (He.ga K "_law_whole"))
  g__law_same : mg "_law_same" = some (.ref (He.ga K "_law_same"))
  g__law_refused : mg "_law_refused" = some (.ref (He.ga K "_law_refused"))
  g_law : mg "law" = some (.ref (He.ga K "law"))
  g_Parts : mg "Parts" = some (.ref (He.ga K "Parts"))
  g_Effect : mg "Effect" = some (.ref (He.ga K "Effect"))
  g_Trail : mg "Trail" = some (.ref (He.ga K "Trail"))
  g_Book : mg "Book" = some (.ref (He.ga K "Book"))
  g_Reader : mg "Reader" = some (.ref (He.ga K "Reader"))
  g_Desk : mg "Desk" = some (.ref (He.ga K "Desk"))
  g_StrewError : mg "StrewError" = some (.ref (He.ga K "StrewError"))
  g_NotFound : mg "NotFound" = some (.ref (He.ga K "NotFound"))
  g_NothingLeft : mg "NothingLeft" = some (.ref (He.ga K "NothingLeft"))
  g_CapacityExceeded : mg "CapacityExceeded" = some (.ref (He.ga K "CapacityExceeded"))
  g_InvalidName : mg "InvalidName" = some (.ref (He.ga K "InvalidName"))
  g_DuplicateName : mg "DuplicateName" = some (.ref (He.ga K "DuplicateName"))
  g_Circular : mg "Circular" = some (.ref (He.ga K "Circular"))
  g_InUse : mg "InUse" = some (.ref (He.ga K "InUse"))
  g_UnknownName : mg "UnknownName" = some (.ref (He.ga K "UnknownName"))
  g_TooLong : mg "TooLong" = some (.ref (He.ga K "TooLong"))
  g_TooDeep : mg "TooDeep" = some (.ref (He.ga K "TooDeep"))
  g_TooMany : mg "TooMany" = some (.ref (He.ga K "TooMany"))
  g_Tangled : mg "Tangled" = some (.ref (He.ga K "Tangled"))
  g_UnknownWalker : mg "UnknownWalker" = some (.ref (He.ga K "UnknownWalker"))
  g_InvalidPlace : mg "InvalidPlace" = some (.ref (He.ga K "InvalidPlace"))
  g_InvalidBlock : mg "InvalidBlock" = some (.ref (He.ga K "InvalidBlock"))
  g_Overload : mg "Overload" = some (.ref (He.ga K "Overload"))
  g_InvalidBeat : mg "InvalidBeat" = some (.ref (He.ga K "InvalidBeat"))
  g_InvalidCount : mg "InvalidCount" = some (.ref (He.ga K "InvalidCount"))
  g_WrongDimension : mg "WrongDimension" = some (.ref (He.ga K "WrongDimension"))
  g_ParseError : mg "ParseError" = some (.ref (He.ga K "ParseError"))
  g_InvalidCommand : mg "InvalidCommand" = some (.ref (He.ga K "InvalidCommand"))
  n_len : mg "len" = none
  n_all : mg "all" = none
  n_any : mg "any" = none
  n_sum : mg "sum" = none
  n_max : mg "max" = none
  n_min : mg "min" = none
  n_sorted : mg "sorted" = none
  n_enumerate : mg "enumerate" = none
  n_isinstance : mg "isinstance" = none
  n_int : mg "int" = none
  n_str : mg "str" = none
  n_tuple : mg "tuple" = none
  n_list : mg "list" = none
  n_dict : mg "dict" = none
  n_bool : mg "bool" = none
  n_range : mg "range" = none
  n_zip : mg "zip" = none
  i_MAX_DIMENSION : ∃ u, mg "MAX_DIMENSION" = some u ∧ RelV (.int 3) u
  i_MAX_STATEMENTS : ∃ u, mg "MAX_STATEMENTS" = some u ∧ RelV (.int 60) u
  i_MAX_STEP : ∃ u, mg "MAX_STEP" = some u ∧ RelV (.int 1000000000000) u
  i_MAX_TIMES : ∃ u, mg "MAX_TIMES" = some u ∧ RelV (.int 1000000000000000000000000000000) u
  i_MAX_NAME : ∃ u, mg "MAX_NAME" = some u ∧ RelV (.int 8) u
  i_MAX_PARTS : ∃ u, mg "MAX_PARTS" = some u ∧ RelV (.int 12) u
  i_MAX_DEPTH : ∃ u, mg "MAX_DEPTH" = some u ∧ RelV (.int 6) u
  i_MAX_PUTS : ∃ u, mg "MAX_PUTS" = some u ∧ RelV (.int 60) u
  i_MAX_LOOPS : ∃ u, mg "MAX_LOOPS" = some u ∧ RelV (.int 6) u
  i_MAX_DIGITS : ∃ u, mg "MAX_DIGITS" = some u ∧ RelV (.int 31) u
  i_MAX_OPEN : ∃ u, mg "MAX_OPEN" = some u ∧ RelV (.int 60) u
  s_MARKS : ∃ u, mg "MARKS" = some u ∧ RelV (.str ";{}") u
  s_FIGURES : ∃ u, mg "FIGURES" = some u ∧ RelV (.str "0123456789") u
  f_is_whole : Fn K "is_whole" "is_whole" (topS 26) [] (He.ga K "is_whole")
  f_origin : Fn K "origin" "origin" (topS 28) [] (He.ga K "origin")
  f_add : Fn K "add" "add" (topS 29) [] (He.ga K "add")
  f_is_name : Fn K "is_name" "is_name" (topS 38) [] (He.ga K "is_name")
  f_is_within : Fn K "is_within" "is_within" (topS 39) [] (He.ga K "is_within")
  f_has_form : Fn K "has_form" "has_form" (topS 41) [] (He.ga K "has_form")
  f_fault : Fn K "fault" "fault" (topS 42) [] (He.ga K "fault")
  f_check_block : Fn K "check_block" "check_block" (topS 43) [] (He.ga K "check_block")
  f_inner_blocks : Fn K "inner_blocks" "inner_blocks" (topS 46) [] (He.ga K "inner_blocks")
  f_statements : Fn K "statements" "statements" (topS 47) [] (He.ga K "statements")
  f_names_in : Fn K "names_in" "names_in" (topS 48) [] (He.ga K "names_in")
  f_renamed : Fn K "renamed" "renamed" (topS 49) [] (He.ga K "renamed")
  f_is_circular : Fn K "is_circular" "is_circular" (topS 54) [] (He.ga K "is_circular")
  f_measured : Fn K "measured" "measured" (topS 55) [] (He.ga K "measured")
  f_measures : Fn K "measures" "measures" (topS 56) [] (He.ga K "measures")
  f_check_measure : Fn K "check_measure" "check_measure" (topS 57) [] (He.ga K "check_measure")
  f_Parts__init_ : Fn K "__init__" "Parts.__init__" (clsS 58 0) [] (He.ma K (He.ga K "Parts") "__init__")
  f_Parts_dimension : Fn K "dimension" "Parts.dimension" (clsS 58 2) [] (He5.wf K (He.ga K "Parts") "property" "dimension")
  f_Parts_names : Fn K "names" "Parts.names" (clsS 58 3) [] (He.ma K (He.ga K "Parts") "names")
  f_Parts_blocks : Fn K "blocks" "Parts.blocks" (clsS 58 4) [] (He.ma K (He.ga K "Parts") "blocks")
  f_Parts_block : Fn K "block" "Parts.block" (clsS 58 5) [] (He.ma K (He.ga K "Parts") "block")
  f_Parts_users : Fn K "users" "Parts.users" (clsS 58 6) [] (He.ma K (He.ga K "Parts") "users")
  f_Parts_check_names : Fn K "check_names" "Parts.check_names" (clsS 58 7) [] (He.ma K (He.ga K "Parts") "check_names")
  f_Parts_measure : Fn K "measure" "Parts.measure" (clsS 58 8) [] (He.ma K (He.ga K "Parts") "measure")
  f_Parts_check : Fn K "check" "Parts.check" (clsS 58 9) [] (He.ma K (He.ga K "Parts") "check")
  f_product : Fn K "product" "product" (topS 69) [] (He.ga K "product")
  f_term_of : Fn K "term_of" "term_of" (topS 71) [] (He.ga K "term_of")
  f_Effect__init_ : Fn K "__init__" "Effect.__init__" (clsS 73 0) [] (He.ma K (He.ga K "Effect") "__init__")
  f_Effect_total : Fn K "total" "Effect.total" (clsS 73 5) [] (He5.wf K (He.ga K "Effect") "property" "total")
  f_Trail__init_ : Fn K "__init__" "Trail.__init__" (clsS 78 0) [] (He.ma K (He.ga K "Trail") "__init__")
  f_Trail_still : Fn K "still" "Trail.still" (clsS 78 1) [] (He5.wf K (He.ga K "Trail") "staticmethod" "still")
  f_Trail_put : Fn K "put" "Trail.put" (clsS 78 3) [] (He5.wf K (He.ga K "Trail") "staticmethod" "put")
  f_Trail__mul_ : Fn K "__mul__" "Trail.__mul__" (clsS 78 8) [] (He.ma K (He.ga K "Trail") "__mul__")
  f_Trail_effect : Fn K "effect" "Trail.effect" (clsS 78 11) [] (He.ma K (He.ga K "Trail") "effect")
  f_statement_trail : Fn K "statement_trail" "statement_trail" (topS 79) [] (He.ga K "statement_trail")
  f_block_trail : Fn K "block_trail" "block_trail" (topS 80) [] (He.ga K "block_trail")
  f_trail_of : Fn K "trail_of" "trail_of" (topS 81) [] (He.ga K "trail_of")
  f_part_trail : Fn K "part_trail" "part_trail" (topS 82) [("back", .bl false)] (He.ga K "part_trail")
  f_check_command : Fn K "check_command" "check_command" (topS 85) [] (He.ga K "check_command")
  f_check_new : Fn K "check_new" "check_new" (topS 86) [] (He.ga K "check_new")
  f_defined : Fn K "defined" "defined" (topS 87) [] (He.ga K "defined")
  f_renamed_part : Fn K "renamed_part" "renamed_part" (topS 89) [] (He.ga K "renamed_part")
  f_dropped : Fn K "dropped" "dropped" (topS 90) [] (He.ga K "dropped")
  f_changed : Fn K "changed" "changed" (topS 91) [] (He.ga K "changed")
  f_Book__init_ : Fn K "__init__" "Book.__init__" (clsS 92 0) [] (He.ma K (He.ga K "Book") "__init__")
  f_Book__len_ : Fn K "__len__" "Book.__len__" (clsS 92 3) [] (He.ma K (He.ga K "Book") "__len__")
  f_Book_parts : Fn K "parts" "Book.parts" (clsS 92 5) [] (He5.wf K (He.ga K "Book") "property" "parts")
  f_Book_become : Fn K "become" "Book.become" (clsS 92 6) [] (He.ma K (He.ga K "Book") "become")
  f_Book_step : Fn K "step" "Book.step" (clsS 92 7) [] (He.ma K (He.ga K "Book") "step")
  f_Book_apply : Fn K "apply" "Book.apply" (clsS 92 8) [] (He.ma K (He.ga K "Book") "apply")
  f_Book_apply_all : Fn K "apply_all" "Book.apply_all" (clsS 92 9) [] (He.ma K (He.ga K "Book") "apply_all")
  f_Book_undo : Fn K "undo" "Book.undo" (clsS 92 14) [] (He.ma K (He.ga K "Book") "undo")
  f_Book_history : Fn K "history" "Book.history" (clsS 92 16) [] (He.ma K (He.ga K "Book") "history")
  f_Book_trail : Fn K "trail" "Book.trail" (clsS 92 17) [] (He.ma K (He.ga K "Book") "trail")
  f_is_number : Fn K "is_number" "is_number" (topS 114) [] (He.ga K "is_number")
  f_tokens_of : Fn K "tokens_of" "tokens_of" (topS 115) [] (He.ga K "tokens_of")
  f_Reader__init_ : Fn K "__init__" "Reader.__init__" (clsS 116 0) [] (He.ma K (He.ga K "Reader") "__init__")
  f_Reader_peek : Fn K "peek" "Reader.peek" (clsS 116 1) [] (He.ma K (He.ga K "Reader") "peek")
  f_Reader_take : Fn K "take" "Reader.take" (clsS 116 3) [] (He.ma K (He.ga K "Reader") "take")
  f_Reader_read_number : Fn K "read_number" "Reader.read_number" (clsS 116 4) [] (He.ma K (He.ga K "Reader") "read_number")
  f_Reader_read_statement : Fn K "read_statement" "Reader.read_statement" (clsS 116 6) [] (He.ma K (He.ga K "Reader") "read_statement")
  f_Reader_read_block : Fn K "read_block" "Reader.read_block" (clsS 116 7) [] (He.ma K (He.ga K "Reader") "read_block")
  f_parse_block : Fn K "parse_block" "parse_block" (topS 117) [] (He.ga K "parse_block")
  f_about_names : Fn K "about_names" "about_names" (topS 121) [] (He.ga K "about_names")
  f_names_row : Fn K "names_row" "names_row" (topS 123) [] (He.ga K "names_row")
  f_Desk__init_ : Fn K "__init__" "Desk.__init__" (clsS 124 0) [("book", .non), ("dimension", .int 2)] (He.ma K (He.ga K "Desk") "__init__")
  f_Desk_ask : Fn K "ask" "Desk.ask" (clsS 124 2) [] (He.ma K (He.ga K "Desk") "ask")
  f_Desk_written : Fn K "written" "Desk.written" (clsS 124 3) [] (He.ma K (He.ga K "Desk") "written")
  f_Desk_answered : Fn K "answered" "Desk.answered" (clsS 124 4) [] (He.ma K (He.ga K "Desk") "answered")
  f__law_a_box : Fn K "_law_a_box" "_law_a_box" (topS 126) [] (He.ga K "_law_a_box")
  f__law_draw : Fn K "_law_draw" "_law_draw" (topS 127) [] (He.ga K "_law_draw")
  f__law_whole : Fn K "_law_whole" "_law_whole" (topS 128) [] (He.ga K "_law_whole")
  f__law_same : Fn K "_law_same" "_law_same" (topS 129) [] (He.ga K "_law_same")
  f__law_refused : Fn K "_law_refused" "_law_refused" (topS 130) [] (He.ga K "_law_refused")
  f_law : Fn K "law" "law" (topS 131) [] (He.ga K "law")
  f_CapacityExceeded__init_ : Fn K "__init__" "CapacityExceeded.__init__" (clsS 8 0) [] (He.ma K (He.ga K "CapacityExceeded") "__init__")
  c_Parts : Cls K (He.ga K "Parts")
  m_Parts : Mk K (He.ga K "Parts") (He.ma K (He.ga K "Parts") "__init__")
  a_Parts_ground : NoAttr K (He.ga K "Parts") "ground"
  a_Parts_kept : NoAttr K (He.ga K "Parts") "kept"
  a_Parts_known : NoAttr K (He.ga K "Parts") "known"
  c_Effect : Cls K (He.ga K "Effect")
  m_Effect : Mk K (He.ga K "Effect") (He.ma K (He.ga K "Effect") "__init__")
  a_Effect_ground : NoAttr K (He.ga K "Effect") "ground"
  a_Effect_way : NoAttr K (He.ga K "Effect") "way"
  a_Effect_rows : NoAttr K (He.ga K "Effect") "rows"
  c_Trail : Cls K (He.ga K "Trail")
  m_Trail : Mk K (He.ga K "Trail") (He.ma K (He.ga K "Trail") "__init__")
  a_Trail_ground : NoAttr K (He.ga K "Trail") "ground"
  a_Trail_length : NoAttr K (He.ga K "Trail") "length"
  a_Trail_way : NoAttr K (He.ga K "Trail") "way"
  a_Trail_rows : NoAttr K (He.ga K "Trail") "rows"
  c_Book : Cls K (He.ga K "Book")
  m_Book : Mk K (He.ga K "Book") (He.ma K (He.ga K "Book") "__init__")
  a_Book_now : NoAttr K (He.ga K "Book") "now"
  a_Book_past : NoAttr K (He.ga K "Book") "past"
  a_Book_future : NoAttr K (He.ga K "Book") "future"
  a_Book_key : NoAttr K (He.ga K "Book") "key"
  c_Reader : Cls K (He.ga K "Reader")
  m_Reader : Mk K (He.ga K "Reader") (He.ma K (He.ga K "Reader") "__init__")
  a_Reader_tokens : NoAttr K (He.ga K "Reader") "tokens"
  a_Reader_size : NoAttr K (He.ga K "Reader") "size"
  a_Reader_ground : NoAttr K (He.ga K "Reader") "ground"
  a_Reader_at : NoAttr K (He.ga K "Reader") "at"
  a_Reader_opened : NoAttr K (He.ga K "Reader") "opened"
  c_Desk : Cls K (He.ga K "Desk")
  m_Desk : Mk K (He.ga K "Desk") (He.ma K (He.ga K "Desk") "__init__")
  a_Desk_shelf : NoAttr K (He.ga K "Desk") "shelf"
  p_Parts_dimension : PropOf K (He.ga K "Parts") "dimension" (He.ma K (He.ga K "Parts") "dimension") (He5.wf K (He.ga K "Parts") "property" "dimension")
  t_Parts_names : Meth K (He.ga K "Parts") "names" (He.ma K (He.ga K "Parts") "names")
  t_Parts_blocks : Meth K (He.ga K "Parts") "blocks" (He.ma K (He.ga K "Parts") "blocks")
  t_Parts_block : Meth K (He.ga K "Parts") "block" (He.ma K (He.ga K "Parts") "block")
  t_Parts_users : Meth K (He.ga K "Parts") "users" (He.ma K (He.ga K "Parts") "users")
  t_Parts_check_names : Meth K (He.ga K "Parts") "check_names" (He.ma K (He.ga K "Parts") "check_names")
  t_Parts_measure : Meth K (He.ga K "Parts") "measure" (He.ma K (He.ga K "Parts") "measure")
  t_Parts_check : Meth K (He.ga K "Parts") "check" (He.ma K (He.ga K "Parts") "check")
  p_Effect_total : PropOf K (He.ga K "Effect") "total" (He.ma K (He.ga K "Effect") "total") (He5.wf K (He.ga K "Effect") "property" "total")
  st_Trail_still : Stat K (He.ga K "Trail") "still" (He5.wf K (He.ga K "Trail") "staticmethod" "still")
  st_Trail_put : Stat K (He.ga K "Trail") "put" (He5.wf K (He.ga K "Trail") "staticmethod" "put")
  t_Trail_effect : Meth K (He.ga K "Trail") "effect" (He.ma K (He.ga K "Trail") "effect")
  p_Book_parts : PropOf K (He.ga K "Book") "parts" (He.ma K (He.ga K "Book") "parts") (He5.wf K (He.ga K "Book") "property" "parts")
  t_Book_become : Meth K (He.ga K "Book") "become" (He.ma K (He.ga K "Book") "become")
  t_Book_step : Meth K (He.ga K "Book") "step" (He.ma K (He.ga K "Book") "step")
  t_Book_apply : Meth K (He.ga K "Book") "apply" (He.ma K (He.ga K "Book") "apply")
  t_Book_apply_all : Meth K (He.ga K "Book") "apply_all" (He.ma K (He.ga K "Book") "apply_all")
  t_Book_undo : Meth K (He.ga K "Book") "undo" (He.ma K (He.ga K "Book") "undo")
  t_Book_history : Meth K (He.ga K "Book") "history" (He.ma K (He.ga K "Book") "history")
  t_Book_trail : Meth K (He.ga K "Book") "trail" (He.ma K (He.ga K "Book") "trail")
  t_Reader_peek : Meth K (He.ga K "Reader") "peek" (He.ma K (He.ga K "Reader") "peek")
  t_Reader_take : Meth K (He.ga K "Reader") "take" (He.ma K (He.ga K "Reader") "take")
  t_Reader_read_number : Meth K (He.ga K "Reader") "read_number" (He.ma K (He.ga K "Reader") "read_number")
  t_Reader_read_statement : Meth K (He.ga K "Reader") "read_statement" (He.ma K (He.ga K "Reader") "read_statement")
  t_Reader_read_block : Meth K (He.ga K "Reader") "read_block" (He.ma K (He.ga K "Reader") "read_block")
  t_Desk_ask : Meth K (He.ga K "Desk") "ask" (He.ma K (He.ga K "Desk") "ask")
  t_Desk_written : Meth K (He.ga K "Desk") "written" (He.ma K (He.ga K "Desk") "written")
  t_Desk_answered : Meth K (He.ga K "Desk") "answered" (He.ma K (He.ga K "Desk") "answered")
  x_oex : OexC K (He.ga K "CapacityExceeded")
  x_ini : PySem.W.findIn K (.ref (He.ga K "CapacityExceeded")) "__init__" = some (some (.ref (He.ma K (He.ga K "CapacityExceeded") "__init__")))
  x_ty : PySem.W.typeIn K (.ref (He.ma K (He.ga K "CapacityExceeded") "__init__")) = some (.type "function")
  x_capacity : NoAttr K (He.ga K "CapacityExceeded") "capacity"
  x_tag : NoAttr K (He.ga K "CapacityExceeded") "tag"
  x_xf : XfC K (He.ga K "CapacityExceeded")
  e_InvalidName : PySem.W.exmOne K (.ref (He.ga K "CapacityExceeded")) (.ref (He.ga K "InvalidName")) = some false
  e_DuplicateName : PySem.W.exmOne K (.ref (He.ga K "CapacityExceeded")) (.ref (He.ga K "DuplicateName")) = some false
  e_Circular : PySem.W.exmOne K (.ref (He.ga K "CapacityExceeded")) (.ref (He.ga K "Circular")) = some false
  e_InUse : PySem.W.exmOne K (.ref (He.ga K "CapacityExceeded")) (.ref (He.ga K "InUse")) = some false
  e_UnknownName : PySem.W.exmOne K (.ref (He.ga K "CapacityExceeded")) (.ref (He.ga K "UnknownName")) = some false
  e_InvalidPlace : PySem.W.exmOne K (.ref (He.ga K "CapacityExceeded")) (.ref (He.ga K "InvalidPlace")) = some false
  e_InvalidBlock : PySem.W.exmOne K (.ref (He.ga K "CapacityExceeded")) (.ref (He.ga K "InvalidBlock")) = some false
  e_CapacityExceeded : PySem.W.exmOne K (.ref (He.ga K "CapacityExceeded")) (.ref (He.ga K "CapacityExceeded")) = some true
  e_long : PySem.W.exmAny K (.ref (He.ga K "CapacityExceeded")) [(.ref (He.ga K "TooLong")), (.ref (He.ga K "TooDeep")), (.ref (He.ga K "TooMany"))] = some false
  e_tangled : PySem.W.exmAny K (.ref (He.ga K "CapacityExceeded")) [(.ref (He.ga K "Tangled")), (.ref (He.ga K "UnknownWalker"))] = some false
  e_strew : PySem.W.exmAny K (.ref (He.ga K "CapacityExceeded")) [(.ref (He.ga K "StrewError")), (.ref (He.ga K "NotFound")), (.ref (He.ga K "NothingLeft"))] = some true
  g_LENGTHS : mg "LENGTHS" = some (.ref (He.ga K "LENGTHS"))
  d_LENGTHS : ∃ es n, KDict K w (He.ga K "LENGTHS") es n
  g_COUNTS : mg "COUNTS" = some (.ref (He.ga K "COUNTS"))
  d_COUNTS : ∃ es n, KDict K w (He.ga K "COUNTS") es n
  v_LENGTHS : ∀ q ∈ [(("define", 3) : Str × Int), (("redefine", 3) : Str × Int), (("rename", 3) : Str × Int), (("drop", 2) : Str × Int)], ∃ u, PySem.W.nsIn K (He.ga K "LENGTHS") q.1 = some (some u) ∧ RelV (.int q.2) u
  v_COUNTS : ∀ q ∈ [(("names", 1) : Str × Int), (("undo", 1) : Str × Int), (("redo", 1) : Str × Int), (("drop", 2) : Str × Int), (("show", 2) : Str × Int), (("beats", 2) : Str × Int), (("total", 2) : Str × Int), (("end", 2) : Str × Int), (("rename", 3) : Str × Int), (("same", 3) : Str × Int), (("differ", 3) : Str × Int), (("amount", 2) : Str × Int), (("visits", 2) : Str × Int)], ∃ u, PySem.W.nsIn K (He.ga K "COUNTS") q.1 = some (some u) ∧ RelV (.int q.2) u
  o_Trail : OwnOp K (He.ga K "Trail") .Mult (He.ma K (He.ga K "Trail") "__mul__")
  l_Book : OwnLen K (He.ga K "Book") (He.ma K (He.ga K "Book") "__len__")
end Sf
/-! ### data of the program -/
namespace Sf
open PySem PySem.Spec PyProof.Rows L2
section
variable {K : PySem.W.Frag} {H H' : Hp}
theorem same_rd {a : Addr} {u : HO} (s : Same H H') (h : Rd H a u) : Rd H' a u := h.imp (s _ _) fun ⟨o, e⟩ => ⟨o, s _ _ e⟩
theorem same_tup {a : Addr} {xs : List V} (s : Same H H') (h : SqT K H a xs) : SqT K H' a xs := h.imp (same_rd s) id
/-- one statement: ("put", k) -/
def PutAt (K : PySem.W.Frag) (H : Hp) (t : Addr) (k : Int) : Prop := SqT K H t [.str "put", .int k] ∧ (k = 1 ∨ k = 2)
/-- a block's statements: none, or one -/
def Sts (K : PySem.W.Frag) (H : Hp) : Option Int → List V → Prop
  | none, ts => ts = []
  | some k, ts => ∃ t, ts = [.ref t] ∧ PutAt K H t k
def BlkAt (K : PySem.W.Frag) (H : Hp) (v : V) (b : Option Int) : Prop := ∃ a ts, v = .ref a ∧ SqT K H a ts ∧ Sts K H b ts
theorem PutAt.same {t : Addr} {k : Int} (s : Same H H') (h : PutAt K H t k) : PutAt K H' t k := ⟨same_tup s h.1, h.2⟩
theorem Sts.same {b : Option Int} {ts : List V} (s : Same H H') (h : Sts K H b ts) : Sts K H' b ts := by
  cases b with
  | none => exact h
  | some k => obtain ⟨t, e, h⟩ := h; exact ⟨t, e, h.same s⟩
theorem BlkAt.same {v : V} {b : Option Int} (s : Same H H') (h : BlkAt K H v b) : BlkAt K H' v b := by
  obtain ⟨a, ts, e, h1, h2⟩ := h
  exact ⟨a, ts, e, same_tup s h1, h2.same s⟩
/-- a loop over nothing, over one thing -/
theorem for_t0 {a : Addr} {g : TG} {tb : TS} {D : Ends} {σ : L2.St} (h : SqT K H a []) (hd : D.nx σ H) :
    ∃ W : Nat → Nat → L2.St → Hp → Prop, (∃ m, W 0 m σ H) ∧ ∀ i m σ H, W i m σ H →
      ((Itt K a).stop i H ∧ D.nx σ H) ∨ ((Itt K a).go i H ∧ ∃ N : L2.St → Hp → Prop, (∀ σ' H', N σ' H' → ∃ m', m' < m ∧ W (i + 1) m' σ' H') ∧ ∀ x H', (Itt K a).yld i H x H' → g x σ H' fun σ2 H2 => tb { D with nx := N, ct := N, bk := D.nx } σ2 H2) :=
  for_it (walk_tup (xs := [])) (fun _ σ' H' => σ' = σ ∧ H' = H) ⟨rfl, rfl⟩ (fun _ _ _ _ e => e.2 ▸ h) (fun i _ _ _ _ hi => absurd hi (Nat.not_lt_zero i)) fun _ _ e => by rw [e.1, e.2]; exact hd
theorem for_t1 {a : Addr} {x : V} {g : TG} {tb : TS} {D : Ends} {σ : L2.St} (h : SqT K H a [x])
    (hs : g x σ H fun σ2 H2 => tb { D with nx := fun σ' H' => SqT K H' a [x] ∧ D.nx σ' H', ct := fun σ' H' => SqT K H' a [x] ∧ D.nx σ' H', bk := D.nx } σ2 H2) :
    ∃ W : Nat → Nat → L2.St → Hp → Prop, (∃ m, W 0 m σ H) ∧ ∀ i m σ H, W i m σ H →
      ((Itt K a).stop i H ∧ D.nx σ H) ∨ ((Itt K a).go i H ∧ ∃ N : L2.St → Hp → Prop, (∀ σ' H', N σ' H' → ∃ m', m' < m ∧ W (i + 1) m' σ' H') ∧ ∀ x H', (Itt K a).yld i H x H' → g x σ H' fun σ2 H2 => tb { D with nx := N, ct := N, bk := D.nx } σ2 H2) := by
  refine forK (walk_tup (xs := [x])) (fun i σ' H' => if i = 0 then σ' = σ ∧ H' = H else SqT K H' a [x] ∧ D.nx σ' H') ⟨rfl, rfl⟩ (fun i σ' H' _ e => ?_) (fun i y σ' H' H'' hi e y => ?_) fun σ' H' e => e.2
  · by_cases hi : i = 0
    · rw [if_pos hi] at e; rw [e.2]; exact h
    · rw [if_neg hi] at e; exact e.1
  · have : i = 0 := by simpa using hi
    subst this
    obtain ⟨rfl, rfl⟩ := e
    obtain ⟨rfl, y⟩ := y
    obtain rfl : x = _ := Option.some.inj y
    exact hs
end
def Nm (z : Str) : Bool := decide (1 ≤ z.length) && decide (z.length ≤ 8) && z.cps.toList.all fun c => decide (c ∈ ("abcdefghijklmnopqrstuvwxyz" : Str).cps.toList)
theorem tyT {K : PySem.W.Frag} {H : Hp} {a : Addr} {xs : List V} (h : SqT K H a xs) : TyX K H (.ref a) (.type "tuple") := by
  rcases h with (h | ⟨o, h⟩) | ⟨o, its, n, h1, h2, _⟩
  · exact .base (.tup h)
  · exact .fTuple h
  · exact .kTuple h1 h2
theorem Sts.few {K : PySem.W.Frag} {H : Hp} {b : Option Int} {ts : List V} (h : Sts K H b ts) : ts.length ≤ 1 := by
  cases b with
  | none => obtain rfl : ts = [] := h; exact Nat.zero_le _
  | some k => obtain ⟨t, rfl, _⟩ := h; exact Nat.le_refl _
theorem Sts.mem {K : PySem.W.Frag} {H : Hp} {b : Option Int} {ts : List V} {x : V} (h : Sts K H b ts) (hx : x ∈ ts) : ∃ k t, x = .ref t ∧ PutAt K H t k := by
  cases b with
  | none => obtain rfl : ts = [] := h; cases hx
  | some k => obtain ⟨t, rfl, hp⟩ := h; obtain rfl := List.mem_singleton.mp hx; exact ⟨k, t, rfl, hp⟩
theorem sNe : (("put" : Str) = "repeat") = False ∧ (("put" : Str) = "go") = False ∧ (("put" : Str) = "do") = False ∧ (("put" : Str) = "undo") = False ∧ (∀ a b : Str, scal (.str a) (.str b) = true) ∧ ∀ i j : Int, scal (.int i) (.int j) = true := by
  refine ⟨?_, ?_, ?_, ?_, fun _ _ => rfl, fun _ _ => rfl⟩ <;> exact eq_false (by decide)
/-! is_whole -/
def sp_is_whole (K : PySem.W.Frag) : Sp := fun vs H Q E => ∃ i, vs = [.int i] ∧ Q (.bl true) H
abbrev sc_is_wholeN : List Str := ["thing"]
theorem sc_is_whole : FnScope sc_is_wholeN ["thing"] (defScope (topS 26)) := ⟨rfl, rfl, rfl, by decide +kernel, rfl, by decide +kernel, by decide +kernel⟩
theorem r_is_whole {P : Program} {w : World} {K : PySem.W.Frag} {mg : Str → Option Value} {base : Heap} (T : Tx w K mg) : FnR P w K mg base (L2.CX P w) 1 (He.ga K "is_whole") (sp_is_whole K) := by
  refine mkR T.f_is_whole sc_is_whole (fun _ _ _ _ _ _ us hl => match us, hl with | [_], _ => rfl) (fun vs H Q E h => by obtain ⟨i, rfl, hq⟩ := h; rfl) (fun cdv A outer s H vs Q E hr h => ?_)
  obtain ⟨i, rfl, hq⟩ := h
  refine ⟨_, (pss_one (ps_ret (pe_and (pe_callB (r := rIsi K) call_isi (by rfl) T.n_isinstance (by decide +kernel) (pa_cons (pv 0) (pa_cons (pe_bltn (v := .ty "int") (u := .type "int") (by rfl) T.n_int (by decide +kernel) rfl) pa_nil))) (pe_one (pe_not (pe_callB (r := rIsi K) call_isi (by rfl) T.n_isinstance (by decide +kernel) (pa_cons (pv 0) (pa_cons (pe_bltn (v := .ty "bool") (u := .type "bool") (by rfl) T.n_bool (by decide +kernel) rfl) pa_nil)))))))), ?_⟩
  refine start_of (σ := [some (.int i)]) rfl ?_
  refine ⟨_, rfl, _, _, _, _, true, rfl, .ty "int", .base (.int i), kit_ty (by decide +kernel), true, rfl, ?_⟩
  rw [if_pos rfl]
  refine ⟨_, rfl, _, _, _, _, false, rfl, .ty "bool", .base (.int i), kit_ty (by decide +kernel), false, rfl, ?_⟩
  exact hq
/-! is_within -/
def sp_is_within (K : PySem.W.Frag) : Sp := fun vs H Q E => ∃ i j, vs = [.int i, .int j] ∧ -j ≤ i ∧ i ≤ j ∧ Q (.bl true) H
abbrev sc_is_withinN : List Str := ["number", "bound"]
theorem sc_is_within : FnScope sc_is_withinN ["number", "bound"] (defScope (topS 39)) := ⟨rfl, rfl, rfl, by decide +kernel, rfl, by decide +kernel, by decide +kernel⟩
theorem r_is_within {P : Program} {w : World} {K : PySem.W.Frag} {mg : Str → Option Value} {base : Heap} (T : Tx w K mg) : FnR P w K mg base (L2.CX P w) 2 (He.ga K "is_within") (sp_is_within K) := by
  refine mkR T.f_is_within sc_is_within (fun _ _ _ _ _ _ us hl => match us, hl with | [_, _], _ => rfl) (fun vs H Q E h => by obtain ⟨i, j, rfl, h1, h2, hq⟩ := h; rfl) (fun cdv A outer s H vs Q E hr h => ?_)
  obtain ⟨i, j, rfl, h1, h2, hq⟩ := h
  refine ⟨_, (pss_one (ps_ret (pe_and (pe_f (r_is_whole (P := P) (w := w) (K := K) (base := base) T) T.g_is_whole T.f_is_whole.keep hr passL (pa_cons (pv 0) pa_nil)) (pe_one (pe_chain op_le op_le (pe_un un_neg (pv 1)) (pv 0) (pv 1)))))), ?_⟩
  refine start_of (σ := [some (.int i), some (.int j)]) rfl ?_
  simp only [rd, rd2, rd3, rd4, List.getElem?_cons_zero, List.getElem?_cons_succ, Option.some.injEq, exists_eq_left', exists_eq_left, exists_and_left, exists_and_right, List.cons.injEq, V.str.injEq, V.int.injEq, V.bl.injEq, V.ref.injEq, V.ty.injEq, and_true, true_and, List.set_cons_zero, List.set_cons_succ, exists_const, exists_false, reduceCtorEq, ↓reduceIte, exists_eq, exists_eq', and_self, cxK, wipe, List.map_cons, List.map_nil, List.length_cons, List.length_nil, Nat.zero_add, Nat.reduceAdd, Int.cast_ofNat_Int, Int.reduceEq, Int.reduceLE, Int.reduceLT, decide_eq_true_eq, decide_true, decide_false, Bool.true_eq_false, Bool.false_eq_true, Bool.not_true, Bool.not_false, sp_is_whole, h1, h2]
  exact hq
/-! is_name -/
def sp_is_name (K : PySem.W.Frag) : Sp := fun vs H Q E => ∃ z : Str, vs = [.str z] ∧ Nm z = true ∧ ∀ H', Same H H' → Q (.bl true) H'
abbrev sc_is_nameN : List Str := ["text", "sign"]
theorem sc_is_name : FnScope sc_is_nameN ["text"] (defScope (topS 38)) := ⟨rfl, rfl, rfl, by decide +kernel, rfl, by decide +kernel, by decide +kernel⟩
theorem r_is_name {P : Program} {w : World} {K : PySem.W.Frag} {mg : Str → Option Value} {base : Heap} (T : Tx w K mg) : FnR P w K mg base (L2.CX P w) 1 (He.ga K "is_name") (sp_is_name K) := by
  refine mkR T.f_is_name sc_is_name (fun _ _ _ _ _ _ us hl => match us, hl with | [_], _ => rfl) (fun vs H Q E h => by obtain ⟨z, rfl, hn, hq⟩ := h; rfl) (fun cdv A outer s H vs Q E hr h => ?_)
  obtain ⟨z, rfl, hn, hq⟩ := h
  refine ⟨_, (pss_one (ps_ret (pe_and (pe_chain op_le op_le (pe_int) (pe_callB call_len_str (by rfl) T.n_len boot_len (pa_cons (pv 0) pa_nil)) (C8.pe_gc (by rfl) T.i_MAX_NAME)) (pe_one (pe_callB (r := rAll K) (cr_all rfl) (by rfl) T.n_all (by decide +kernel) (pa_cons (pe_lc (own := [("sign", 1)]) (g := gName 1) (tt := tYes) rfl sc_is_name.nd (pi_str (pv 0)) (blkOk_by (N := sc_is_nameN) (sc := (defScope (topS 38))) (by decide +kernel)) (fun _ _ _ _ _ => (pg_name (i := 1) sc_is_name.nd rfl (Or.inl rfl))) (fun _ _ _ _ _ => pts_nil) (fun _ _ _ _ _ => (pe_cmpR op_in_sign (pv 1) (pe_str) (by rfl)))) pa_nil)))))), ?_⟩
  refine start_of (σ := [some (.str z), none]) rfl ?_
  unfold Nm at hn
  rw [Bool.and_eq_true, Bool.and_eq_true, decide_eq_true_iff, decide_eq_true_iff] at hn
  obtain ⟨⟨n1, n2⟩, n3⟩ := hn
  simp only [rd, rd2, rd3, rd4, List.getElem?_cons_zero, List.getElem?_cons_succ, Option.some.injEq, exists_eq_left', exists_eq_left, exists_and_left, exists_and_right, List.cons.injEq, V.str.injEq, V.int.injEq, V.bl.injEq, V.ref.injEq, V.ty.injEq, and_true, true_and, List.set_cons_zero, List.set_cons_succ, exists_const, exists_false, reduceCtorEq, ↓reduceIte, exists_eq, exists_eq', and_self, cxK, wipe, List.map_cons, List.map_nil, List.length_cons, List.length_nil, Nat.zero_add, Nat.reduceAdd, Int.cast_ofNat_Int, Int.reduceEq, Int.reduceLE, Int.reduceLT, decide_eq_true_eq, decide_true, decide_false, Bool.true_eq_false, Bool.false_eq_true, Bool.not_true, Bool.not_false]
  refine ⟨by rw [sizeLine_eq]; omega, ?_⟩
  rw [if_pos (by omega), if_pos (by omega)]
  refine lcG walk_sgs (fun _ => true) (fun _ => .bl true) ?_ (fun _ => rfl) (fun _ _ => trivial) (fun x H' R hx s1 hR => tYesG hR) (fun x H' R hx _ s1 hR => ?_) fun D H' s1 e => ?_
  · unfold sgs; rw [List.length_map, Array.length_toList]; exact Nat.le_trans n2 (by decide)
  · obtain ⟨c, hc, rfl⟩ := List.mem_map.mp hx
    have := List.all_eq_true.mp n3 c hc
    simp only [rd, rd2, rd3, rd4, List.getElem?_cons_zero, List.getElem?_cons_succ, Option.some.injEq, exists_eq_left', exists_eq_left, exists_and_left, exists_and_right, List.cons.injEq, V.str.injEq, V.int.injEq, V.bl.injEq, V.ref.injEq, V.ty.injEq, and_true, true_and, List.set_cons_zero, List.set_cons_succ, exists_const, exists_false, reduceCtorEq, ↓reduceIte, exists_eq, exists_eq', and_self, cxK, wipe, List.map_cons, List.map_nil, List.length_cons, List.length_nil, Nat.zero_add, Nat.reduceAdd, Int.cast_ofNat_Int, Int.reduceEq, Int.reduceLE, Int.reduceLT, decide_eq_true_eq, decide_true, decide_false, Bool.true_eq_false, Bool.false_eq_true, Bool.not_true, Bool.not_false]
    refine ⟨c, rfl, ?_⟩
    rw [this]
    exact hR _ (Same.refl _)
  · simp only [rd, rd2, rd3, rd4, List.getElem?_cons_zero, List.getElem?_cons_succ, Option.some.injEq, exists_eq_left', exists_eq_left, exists_and_left, exists_and_right, List.cons.injEq, V.str.injEq, V.int.injEq, V.bl.injEq, V.ref.injEq, V.ty.injEq, and_true, true_and, List.set_cons_zero, List.set_cons_succ, exists_const, exists_false, reduceCtorEq, ↓reduceIte, exists_eq, exists_eq', and_self, cxK, wipe, List.map_cons, List.map_nil, List.length_cons, List.length_nil, Nat.zero_add, Nat.reduceAdd, Int.cast_ofNat_Int, Int.reduceEq, Int.reduceLE, Int.reduceLT, decide_eq_true_eq, decide_true, decide_false, Bool.true_eq_false, Bool.false_eq_true, Bool.not_true, Bool.not_false]
    refine ⟨(sgs z).map fun _ => true, .of ?_, ?_⟩
    · rw [e, List.filter_eq_self.mpr (fun _ _ => rfl), List.map_map] <;> rfl
    · rw [List.all_eq_true.mpr (fun b hb => by obtain ⟨_, _, rfl⟩ := List.mem_map.mp hb; rfl)]
      exact hq _ s1
/-! has_form -/
def sp_has_form (K : PySem.W.Frag) : Sp := fun vs H Q E => ∃ t k d, vs = [.ref t, d] ∧ PutAt K H t k ∧ ∀ H', Same H H' → Q (.bl true) H'
abbrev sc_has_formN : List Str := ["statement", "dimension", "word", "one"]
theorem sc_has_form : FnScope sc_has_formN ["statement", "dimension"] (defScope (topS 41)) := ⟨rfl, rfl, rfl, by decide +kernel, rfl, by decide +kernel, by decide +kernel⟩
theorem r_has_form {P : Program} {w : World} {K : PySem.W.Frag} {mg : Str → Option Value} {base : Heap} (T : Tx w K mg) : FnR P w K mg base (L2.CX P w) 3 (He.ga K "has_form") (sp_has_form K) := by
  refine mkR T.f_has_form sc_has_form (fun _ _ _ _ _ _ us hl => match us, hl with | [_, _], _ => rfl) (fun vs H Q E h => by obtain ⟨t, k, d, rfl, ⟨ht, hk⟩, hq⟩ := h; rfl) (fun cdv A outer s H vs Q E hr h => ?_)
  obtain ⟨t, k, d, rfl, ⟨ht, hk⟩, hq⟩ := h
  refine ⟨_, (pss_cons (ps_if (PW.pt (pw_or (pt_not (pt_val (pe_callB (r := rIsi K) call_isi (by rfl) T.n_isinstance (by decide +kernel) (pa_cons (pv 0) (pa_cons (pe_bltn (v := .ty "tuple") (u := .type "tuple") (by rfl) T.n_tuple (by decide +kernel) rfl) pa_nil))))) (pw_or1 (pt_cmpR (r := rIn K true) op_notIn_seq (pe_callB (r := rLenS K) call_lenS (by rfl) T.n_len boot_len (pa_cons (pv 0) pa_nil)) (pe_tup (pa_cons (pe_int) (pa_cons (pe_int) pa_nil))) (by rfl))))) (pss_one ps_never) pss_nil) (pss_cons (ps_asg (pe_slice sl_tupA (pv 0) po_none (po_some pe_int)) (kpg (K := K) (n := 2) (pg_tup rfl (pgs_cons (pg_name (i := 2) sc_has_form.nd rfl (Or.inl rfl)) (pgs_cons (pg_name (i := 3) sc_has_form.nd rfl (Or.inl rfl)) pgs_nil))))) (pss_cons (ps_if (pt_cmpR op_eq (pv 2) (pe_str) (nomark _)) (pss_one ps_never) pss_nil) (pss_cons (ps_if (pt_cmpR op_eq (pe_callB (r := rLenS K) call_lenS (by rfl) T.n_len boot_len (pa_cons (pv 0) pa_nil)) (pe_int) (nomark _)) (pss_one ps_never) pss_nil) (pss_cons (ps_if (pt_cmpR op_eq (pv 2) (pe_str) (nomark _)) (pss_one ps_never) pss_nil) (pss_cons (ps_if (pt_cmpR op_eq (pv 2) (pe_str) (nomark _)) (pss_one (ps_ret (pe_f (r_is_within (P := P) (w := w) (K := K) (base := base) T) T.g_is_within T.f_is_within.keep hr passL (pa_cons (pv 3) (pa_cons (C8.pe_gc (by rfl) T.i_MAX_STEP) pa_nil))))) pss_nil) (pss_one ps_never))))))), ?_⟩
  refine start_of (σ := [some (.ref t), some d, none, none]) rfl ?_
  simp only [rd, rd2, rd3, rd4, List.getElem?_cons_zero, List.getElem?_cons_succ, Option.some.injEq, exists_eq_left', exists_eq_left, exists_and_left, exists_and_right, List.cons.injEq, V.str.injEq, V.int.injEq, V.bl.injEq, V.ref.injEq, V.ty.injEq, and_true, true_and, List.set_cons_zero, List.set_cons_succ, exists_const, exists_false, reduceCtorEq, ↓reduceIte, exists_eq, exists_eq', and_self, cxK, wipe, List.map_cons, List.map_nil, List.length_cons, List.length_nil, Nat.zero_add, Nat.reduceAdd, Int.cast_ofNat_Int, Int.reduceEq, Int.reduceLE, Int.reduceLT, decide_eq_true_eq, decide_true, decide_false, Bool.true_eq_false, Bool.false_eq_true, Bool.not_true, Bool.not_false]
  refine ⟨_, _, _, _, true, rfl, .ty "tuple", tyT ht, kit_ty (by decide +kernel), true, rfl, ?_⟩
  rw [if_neg (by decide)]
  refine ⟨_, .inr ht, by decide, fun p hp => ⟨_, .inr (.of upd_same), rfl, rfl, ?_⟩⟩
  simp only [rd, rd2, rd3, rd4, List.getElem?_cons_zero, List.getElem?_cons_succ, Option.some.injEq, exists_eq_left', exists_eq_left, exists_and_left, exists_and_right, List.cons.injEq, V.str.injEq, V.int.injEq, V.bl.injEq, V.ref.injEq, V.ty.injEq, and_true, true_and, List.set_cons_zero, List.set_cons_succ, exists_const, exists_false, reduceCtorEq, ↓reduceIte, exists_eq, exists_eq', and_self, cxK, wipe, List.map_cons, List.map_nil, List.length_cons, List.length_nil, Nat.zero_add, Nat.reduceAdd, Int.cast_ofNat_Int, Int.reduceEq, Int.reduceLE, Int.reduceLT, decide_eq_true_eq, decide_true, decide_false, Bool.true_eq_false, Bool.false_eq_true, Bool.not_true, Bool.not_false]
  rw [if_neg (by decide)]
  have ht2 := same_tup (same_upd (o := .tup [.int 2, .int 3]) hp) ht
  refine ⟨t, _, rfl, ht2, fun _ => ?_, fun z => absurd ⟨rfl, rfl⟩ z⟩
  refine ⟨_, rfl, _, ht2, rfl, _, _, rfl, _, _, rfl, rfl, ?_⟩
  simp only [rd, rd2, rd3, rd4, List.getElem?_cons_zero, List.getElem?_cons_succ, Option.some.injEq, exists_eq_left', exists_eq_left, exists_and_left, exists_and_right, List.cons.injEq, V.str.injEq, V.int.injEq, V.bl.injEq, V.ref.injEq, V.ty.injEq, and_true, true_and, List.set_cons_zero, List.set_cons_succ, exists_const, exists_false, reduceCtorEq, ↓reduceIte, exists_eq, exists_eq', and_self, cxK, wipe, List.map_cons, List.map_nil, List.length_cons, List.length_nil, Nat.zero_add, Nat.reduceAdd, Int.cast_ofNat_Int, Int.reduceEq, Int.reduceLE, Int.reduceLT, decide_eq_true_eq, decide_true, decide_false, Bool.true_eq_false, Bool.false_eq_true, Bool.not_true, Bool.not_false, sNe]
  refine ⟨_, .inr ht2, ?_⟩
  exact ⟨_, _, rfl, by omega, by omega, hq _ (same_upd hp)⟩
/-! inner_blocks -/
def sp_inner_blocks (K : PySem.W.Frag) : Sp := fun vs H Q E => ∃ v b, vs = [v] ∧ BlkAt K H v b ∧ ∀ H' l, Same H H' → H' l = some (.lst []) → Q (.ref l) H'
abbrev sc_inner_blocksN : List Str := ["block", "statement"]
theorem sc_inner_blocks : FnScope sc_inner_blocksN ["block"] (defScope (topS 46)) := ⟨rfl, rfl, rfl, by decide +kernel, rfl, by decide +kernel, by decide +kernel⟩
theorem r_inner_blocks {P : Program} {w : World} {K : PySem.W.Frag} {mg : Str → Option Value} {base : Heap} (T : Tx w K mg) : FnR P w K mg base (L2.CX P w) 1 (He.ga K "inner_blocks") (sp_inner_blocks K) := by
  refine mkR T.f_inner_blocks sc_inner_blocks (fun _ _ _ _ _ _ us hl => match us, hl with | [_], _ => rfl) (fun vs H Q E h => by obtain ⟨v, b, rfl, ⟨a, ts, rfl, ha, hb⟩, hq⟩ := h; rfl) (fun cdv A outer s H vs Q E hr h => ?_)
  obtain ⟨v, b, rfl, ⟨a, ts, rfl, ha, hb⟩, hq⟩ := h
  refine ⟨_, (pss_one (ps_ret (pe_lc (own := [("statement", 1)]) (g := gName 1) rfl sc_inner_blocks.nd (pi_tup (pv 0)) (blkOk_by (N := sc_inner_blocksN) (sc := (defScope (topS 46))) (by decide +kernel)) (fun _ _ _ _ _ => (pg_name (i := 1) sc_inner_blocks.nd rfl (Or.inl rfl))) (fun _ _ _ _ _ => (pts_one (pt_cmpR op_eq (pe_ix (r := rIxT K) ix_tup (pv 1) (pe_int) (fun _ _ => rfl)) (pe_str) (nomark _)))) (fun _ _ _ _ _ => pe_never)))), ?_⟩
  refine start_of (σ := [some (.ref a), none]) rfl ?_
  simp only [rd, rd2, rd3, rd4, List.getElem?_cons_zero, List.getElem?_cons_succ, Option.some.injEq, exists_eq_left', exists_eq_left, exists_and_left, exists_and_right, List.cons.injEq, V.str.injEq, V.int.injEq, V.bl.injEq, V.ref.injEq, V.ty.injEq, and_true, true_and, List.set_cons_zero, List.set_cons_succ, exists_const, exists_false, reduceCtorEq, ↓reduceIte, exists_eq, exists_eq', and_self, cxK, wipe, List.map_cons, List.map_nil, List.length_cons, List.length_nil, Nat.zero_add, Nat.reduceAdd, Int.cast_ofNat_Int, Int.reduceEq, Int.reduceLE, Int.reduceLT, decide_eq_true_eq, decide_true, decide_false, Bool.true_eq_false, Bool.false_eq_true, Bool.not_true, Bool.not_false]
  refine ⟨⟨_, ha⟩, ?_⟩
  refine lcG (walk_tup (xs := ts)) (fun _ => false) (fun v => v) (Nat.le_trans hb.few (by decide)) (fun _ => rfl) (fun H' s1 => same_tup s1 ha) (fun x H' R hx s1 hR => ?_) (fun _ _ _ _ h => absurd h Bool.false_ne_true) fun D H' s1 e => hq _ _ s1 ?_
  · obtain ⟨k, t, rfl, hp⟩ := hb.mem hx
    simp only [rd, rd2, rd3, rd4, List.getElem?_cons_zero, List.getElem?_cons_succ, Option.some.injEq, exists_eq_left', exists_eq_left, exists_and_left, exists_and_right, List.cons.injEq, V.str.injEq, V.int.injEq, V.bl.injEq, V.ref.injEq, V.ty.injEq, and_true, true_and, List.set_cons_zero, List.set_cons_succ, exists_const, exists_false, reduceCtorEq, ↓reduceIte, exists_eq, exists_eq', and_self, cxK, wipe, List.map_cons, List.map_nil, List.length_cons, List.length_nil, Nat.zero_add, Nat.reduceAdd, Int.cast_ofNat_Int, Int.reduceEq, Int.reduceLE, Int.reduceLT, decide_eq_true_eq, decide_true, decide_false, Bool.true_eq_false, Bool.false_eq_true, Bool.not_true, Bool.not_false]
    refine ⟨_, same_tup s1 hp.1, _, rfl, ?_⟩
    simp only [rd, rd2, rd3, rd4, List.getElem?_cons_zero, List.getElem?_cons_succ, Option.some.injEq, exists_eq_left', exists_eq_left, exists_and_left, exists_and_right, List.cons.injEq, V.str.injEq, V.int.injEq, V.bl.injEq, V.ref.injEq, V.ty.injEq, and_true, true_and, List.set_cons_zero, List.set_cons_succ, exists_const, exists_false, reduceCtorEq, ↓reduceIte, exists_eq, exists_eq', and_self, cxK, wipe, List.map_cons, List.map_nil, List.length_cons, List.length_nil, Nat.zero_add, Nat.reduceAdd, Int.cast_ofNat_Int, Int.reduceEq, Int.reduceLE, Int.reduceLT, decide_eq_true_eq, decide_true, decide_false, Bool.true_eq_false, Bool.false_eq_true, Bool.not_true, Bool.not_false, sNe]
    exact hR _ (Same.refl _)
  · rw [e, List.filter_eq_nil_iff.mpr (fun _ _ => Bool.false_ne_true)] <;> rfl
/-! statements -/
def sp_statements (K : PySem.W.Frag) : Sp := fun vs H Q E => ∃ v b, vs = [v] ∧ BlkAt K H v b ∧ ∀ (H' : Hp) (n : Nat), n ≤ 1 → Same H H' → Q (.int n) H'
abbrev sc_statementsN : List Str := ["block", "inner"]
theorem sc_statements : FnScope sc_statementsN ["block"] (defScope (topS 47)) := ⟨rfl, rfl, rfl, by decide +kernel, rfl, by decide +kernel, by decide +kernel⟩
theorem r_statements {P : Program} {w : World} {K : PySem.W.Frag} {mg : Str → Option Value} {base : Heap} (T : Tx w K mg) : FnR P w K mg base (L2.CX P w) 2 (He.ga K "statements") (sp_statements K) := by
  refine mkR T.f_statements sc_statements (fun _ _ _ _ _ _ us hl => match us, hl with | [_], _ => rfl) (fun vs H Q E h => by obtain ⟨v, b, rfl, ⟨a, ts, rfl, ha, hb⟩, hq⟩ := h; rfl) (fun cdv A outer s H vs Q E hr h => ?_)
  obtain ⟨v, b, rfl, ⟨a, ts, rfl, ha, hb⟩, hq⟩ := h
  refine ⟨_, (pss_one (ps_ret (pe_op op_add (pe_callB (r := rLenS K) call_lenS (by rfl) T.n_len boot_len (pa_cons (pv 0) pa_nil)) (pe_callB (r := rSum K) (cr_sum rfl) (by rfl) T.n_sum (by decide +kernel) (pa_cons (pe_lc (own := [("inner", 1)]) (g := gName 1) (tt := tYes) rfl sc_statements.nd (pi_list (pe_f (r_inner_blocks (P := P) (w := w) (K := K) (base := base) T) T.g_inner_blocks T.f_inner_blocks.keep hr passL (pa_cons (pv 0) pa_nil))) (blkOk_by (N := sc_statementsN) (sc := (defScope (topS 47))) (by decide +kernel)) (fun _ _ _ _ _ => (pg_name (i := 1) sc_statements.nd rfl (Or.inl rfl))) (fun _ _ _ _ _ => pts_nil) (fun _ _ _ _ _ => pe_never)) pa_nil))))), ?_⟩
  refine start_of (σ := [some (.ref a), none]) rfl ?_
  simp only [rd, rd2, rd3, rd4, List.getElem?_cons_zero, List.getElem?_cons_succ, Option.some.injEq, exists_eq_left', exists_eq_left, exists_and_left, exists_and_right, List.cons.injEq, V.str.injEq, V.int.injEq, V.bl.injEq, V.ref.injEq, V.ty.injEq, and_true, true_and, List.set_cons_zero, List.set_cons_succ, exists_const, exists_false, reduceCtorEq, ↓reduceIte, exists_eq, exists_eq', and_self, cxK, wipe, List.map_cons, List.map_nil, List.length_cons, List.length_nil, Nat.zero_add, Nat.reduceAdd, Int.cast_ofNat_Int, Int.reduceEq, Int.reduceLE, Int.reduceLT, decide_eq_true_eq, decide_true, decide_false, Bool.true_eq_false, Bool.false_eq_true, Bool.not_true, Bool.not_false]
  refine ⟨_, .inr ha, ?_⟩
  refine ⟨_, b, rfl, ⟨a, ts, rfl, ha, hb⟩, fun H1 l s1 hl => ⟨l, rfl, ⟨_, .of hl⟩, ?_⟩⟩
  refine lcG (walk_list (xs := [])) (fun _ => true) (fun v => v) (Nat.zero_le _) (fun _ => rfl) (fun H' s2 => .of (s2 _ _ hl)) (fun x H' R hx => nomatch hx) (fun x H' R hx => nomatch hx) fun D H' s2 e => ?_
  simp only [rd, rd2, rd3, rd4, List.getElem?_cons_zero, List.getElem?_cons_succ, Option.some.injEq, exists_eq_left', exists_eq_left, exists_and_left, exists_and_right, List.cons.injEq, V.str.injEq, V.int.injEq, V.bl.injEq, V.ref.injEq, V.ty.injEq, and_true, true_and, List.set_cons_zero, List.set_cons_succ, exists_const, exists_false, reduceCtorEq, ↓reduceIte, exists_eq, exists_eq', and_self, cxK, wipe, List.map_cons, List.map_nil, List.length_cons, List.length_nil, Nat.zero_add, Nat.reduceAdd, Int.cast_ofNat_Int, Int.reduceEq, Int.reduceLE, Int.reduceLT, decide_eq_true_eq, decide_true, decide_false, Bool.true_eq_false, Bool.false_eq_true, Bool.not_true, Bool.not_false]
  refine ⟨[], .of e, ?_⟩
  have := hb.few
  have z := hq H' ts.length this (s1.trans s2)
  rw [List.sum_nil, Int.add_zero]
  exact z
/-! fault -/
def sp_fault (K : PySem.W.Frag) : Sp := fun vs H Q E => ∃ v b d, vs = [v, d] ∧ BlkAt K H v b ∧ ∀ H', Same H H' → Q .non H'
abbrev sc_faultN : List Str := ["block", "dimension", "at", "statement", "inner"]
theorem sc_fault : FnScope sc_faultN ["block", "dimension"] (defScope (topS 42)) := ⟨rfl, rfl, rfl, by decide +kernel, rfl, by decide +kernel, by decide +kernel⟩
theorem r_fault {P : Program} {w : World} {K : PySem.W.Frag} {mg : Str → Option Value} {base : Heap} (T : Tx w K mg) : FnR P w K mg base (L2.CX P w) 4 (He.ga K "fault") (sp_fault K) := by
  refine mkR T.f_fault sc_fault (fun _ _ _ _ _ _ us hl => match us, hl with | [_, _], _ => rfl) (fun vs H Q E h => by obtain ⟨v, b, d, rfl, ⟨a, ts, rfl, ha, hb⟩, hq⟩ := h; rfl) (fun cdv A outer s H vs Q E hr h => ?_)
  obtain ⟨v, b, d, rfl, ⟨a, ts, rfl, ha, hb⟩, hq⟩ := h
  refine ⟨_, (pss_cons (ps_for (passes_of rfl) rfl (pi_enumT T.n_enumerate (pa_cons (pv 0) pa_nil)) (kpg (K := K) (n := 2) (pg_tup rfl (pgs_cons (pg_name (i := 2) sc_fault.nd rfl (Or.inl rfl)) (pgs_cons (pg_name (i := 3) sc_fault.nd rfl (Or.inl rfl)) pgs_nil)))) (pss_cons (ps_if (pt_not (pt_val (pe_f (r_has_form (P := P) (w := w) (K := K) (base := base) T) T.g_has_form T.f_has_form.keep hr passL (pa_cons (pv 3) (pa_cons (pv 1) pa_nil))))) (pss_one ps_never) pss_nil) (pss_one (ps_if (pt_cmpR op_eq (pe_ix (r := rIxT K) ix_tup (pv 3) (pe_int) (fun _ _ => rfl)) (pe_str) (nomark _)) (pss_cons ps_never (pss_one ps_never)) pss_nil)))) (pss_one (ps_ret (pe_non)))), ?_⟩
  refine start_of (σ := [some (.ref a), some d, none, none, none]) rfl ?_
  simp only [rd, rd2, rd3, rd4, List.getElem?_cons_zero, List.getElem?_cons_succ, Option.some.injEq, exists_eq_left', exists_eq_left, exists_and_left, exists_and_right, List.cons.injEq, V.str.injEq, V.int.injEq, V.bl.injEq, V.ref.injEq, V.ty.injEq, and_true, true_and, List.set_cons_zero, List.set_cons_succ, exists_const, exists_false, reduceCtorEq, ↓reduceIte, exists_eq, exists_eq', and_self, cxK, wipe, List.map_cons, List.map_nil, List.length_cons, List.length_nil, Nat.zero_add, Nat.reduceAdd, Int.cast_ofNat_Int, Int.reduceEq, Int.reduceLE, Int.reduceLT, decide_eq_true_eq, decide_true, decide_false, Bool.true_eq_false, Bool.false_eq_true, Bool.not_true, Bool.not_false]
  refine ⟨⟨_, ha⟩, ?_⟩
  refine forK walk_enumT (fun i σ H' => Same H H' ∧ ∃ x y z, σ = [some (.ref a), some d, x, y, z]) ⟨Same.refl _, _, _, _, rfl⟩ (fun i σ H' _ e => same_tup e.1 ha) (fun i v σ H1 H2 hi e y => ?_) fun σ H' e => hq _ e.1
  obtain ⟨s1, x, y0, z, rfl⟩ := e
  obtain ⟨p, x, rfl, hp, rfl, hx⟩ := y
  obtain ⟨k, t, rfl, ht⟩ := hb.mem (List.mem_of_getElem? hx)
  have s2 := s1.trans (same_upd (o := .tup [.int (i : Nat), .ref t]) hp)
  simp only [rd, rd2, rd3, rd4, List.getElem?_cons_zero, List.getElem?_cons_succ, Option.some.injEq, exists_eq_left', exists_eq_left, exists_and_left, exists_and_right, List.cons.injEq, V.str.injEq, V.int.injEq, V.bl.injEq, V.ref.injEq, V.ty.injEq, and_true, true_and, List.set_cons_zero, List.set_cons_succ, exists_const, exists_false, reduceCtorEq, ↓reduceIte, exists_eq, exists_eq', and_self, cxK, wipe, List.map_cons, List.map_nil, List.length_cons, List.length_nil, Nat.zero_add, Nat.reduceAdd, Int.cast_ofNat_Int, Int.reduceEq, Int.reduceLE, Int.reduceLT, decide_eq_true_eq, decide_true, decide_false, Bool.true_eq_false, Bool.false_eq_true, Bool.not_true, Bool.not_false]
  refine ⟨_, .of upd_same, rfl, _, _, rfl, _, _, rfl, rfl, ?_⟩
  simp only [rd, rd2, rd3, rd4, List.getElem?_cons_zero, List.getElem?_cons_succ, Option.some.injEq, exists_eq_left', exists_eq_left, exists_and_left, exists_and_right, List.cons.injEq, V.str.injEq, V.int.injEq, V.bl.injEq, V.ref.injEq, V.ty.injEq, and_true, true_and, List.set_cons_zero, List.set_cons_succ, exists_const, exists_false, reduceCtorEq, ↓reduceIte, exists_eq, exists_eq', and_self, cxK, wipe, List.map_cons, List.map_nil, List.length_cons, List.length_nil, Nat.zero_add, Nat.reduceAdd, Int.cast_ofNat_Int, Int.reduceEq, Int.reduceLE, Int.reduceLT, decide_eq_true_eq, decide_true, decide_false, Bool.true_eq_false, Bool.false_eq_true, Bool.not_true, Bool.not_false]
  refine ⟨_, _, _, rfl, ht.same s2, fun H3 s3 => ⟨_, rfl, ?_⟩⟩
  have s4 := s2.trans s3
  rw [if_neg (by decide)]
  refine ⟨_, same_tup s4 ht.1, _, rfl, ?_⟩
  simp only [rd, rd2, rd3, rd4, List.getElem?_cons_zero, List.getElem?_cons_succ, Option.some.injEq, exists_eq_left', exists_eq_left, exists_and_left, exists_and_right, List.cons.injEq, V.str.injEq, V.int.injEq, V.bl.injEq, V.ref.injEq, V.ty.injEq, and_true, true_and, List.set_cons_zero, List.set_cons_succ, exists_const, exists_false, reduceCtorEq, ↓reduceIte, exists_eq, exists_eq', and_self, cxK, wipe, List.map_cons, List.map_nil, List.length_cons, List.length_nil, Nat.zero_add, Nat.reduceAdd, Int.cast_ofNat_Int, Int.reduceEq, Int.reduceLE, Int.reduceLT, decide_eq_true_eq, decide_true, decide_false, Bool.true_eq_false, Bool.false_eq_true, Bool.not_true, Bool.not_false, sNe]
  exact s4
/-! check_block -/
def sp_check_block (K : PySem.W.Frag) : Sp := fun vs H Q E => ∃ v b d, vs = [v, d] ∧ BlkAt K H v b ∧ ∀ H', Same H H' → Q .non H'
abbrev sc_check_blockN : List Str := ["block", "dimension", "path"]
theorem sc_check_block : FnScope sc_check_blockN ["block", "dimension"] (defScope (topS 43)) := ⟨rfl, rfl, rfl, by decide +kernel, rfl, by decide +kernel, by decide +kernel⟩
theorem r_check_block {P : Program} {w : World} {K : PySem.W.Frag} {mg : Str → Option Value} {base : Heap} (T : Tx w K mg) : FnR P w K mg base (L2.CX P w) 5 (He.ga K "check_block") (sp_check_block K) := by
  refine mkR T.f_check_block sc_check_block (fun _ _ _ _ _ _ us hl => match us, hl with | [_, _], _ => rfl) (fun vs H Q E h => by obtain ⟨v, b, d, rfl, hb, hq⟩ := h; rfl) (fun cdv A outer s H vs Q E hr h => ?_)
  obtain ⟨v, b, d, rfl, hb, hq⟩ := h
  refine ⟨_, (pss_cons (ps_set (i := 2) sc_check_block.nd rfl (Or.inl rfl) (pe_f (r_fault (P := P) (w := w) (K := K) (base := base) T) T.g_fault T.f_fault.keep hr passL (pa_cons (pv 0) (pa_cons (pv 1) pa_nil)))) (pss_cons (ps_if (pt_cmpR op_notN (pv 2) (pe_non) (nomark _)) (pss_one ps_never) pss_nil) (pss_one (ps_if (pt_cmpR op_gt (pe_f (r_statements (P := P) (w := w) (K := K) (base := base) T) T.g_statements T.f_statements.keep hr passL (pa_cons (pv 0) pa_nil)) (C8.pe_gc (by rfl) T.i_MAX_STATEMENTS) (nomark _)) (pss_one ps_never) pss_nil)))), ?_⟩
  refine start_of (σ := [some v, some d, none]) rfl ?_
  simp only [rd, rd2, rd3, rd4, List.getElem?_cons_zero, List.getElem?_cons_succ, Option.some.injEq, exists_eq_left', exists_eq_left, exists_and_left, exists_and_right, List.cons.injEq, V.str.injEq, V.int.injEq, V.bl.injEq, V.ref.injEq, V.ty.injEq, and_true, true_and, List.set_cons_zero, List.set_cons_succ, exists_const, exists_false, reduceCtorEq, ↓reduceIte, exists_eq, exists_eq', and_self, cxK, wipe, List.map_cons, List.map_nil, List.length_cons, List.length_nil, Nat.zero_add, Nat.reduceAdd, Int.cast_ofNat_Int, Int.reduceEq, Int.reduceLE, Int.reduceLT, decide_eq_true_eq, decide_true, decide_false, Bool.true_eq_false, Bool.false_eq_true, Bool.not_true, Bool.not_false, sp_fault, sp_statements]
  refine ⟨⟨b, hb⟩, fun H1 s1 => ⟨⟨b, hb.same s1⟩, fun H2 n hn s2 => ?_⟩⟩
  rw [if_neg (by omega)]
  exact hq _ (s1.trans s2)
/-! names_in -/
def sp_names_in (K : PySem.W.Frag) : Sp := fun vs H Q E => ∃ v b, vs = [v] ∧ BlkAt K H v b ∧ ∀ H' l, Same H H' → H' l = some (.lst []) → H l = none → Q (.ref l) H'
abbrev sc_names_inN : List Str := ["block", "found", "statement", "names", "name"]
theorem sc_names_in : FnScope sc_names_inN ["block"] (defScope (topS 48)) := ⟨rfl, rfl, rfl, by decide +kernel, rfl, by decide +kernel, by decide +kernel⟩
theorem r_names_in {P : Program} {w : World} {K : PySem.W.Frag} {mg : Str → Option Value} {base : Heap} (T : Tx w K mg) : FnR P w K mg base (L2.CX P w) 1 (He.ga K "names_in") (sp_names_in K) := by
  refine mkR T.f_names_in sc_names_in (fun _ _ _ _ _ _ us hl => match us, hl with | [_], _ => rfl) (fun vs H Q E h => by obtain ⟨v, b, rfl, ⟨a, ts, rfl, ha, hb⟩, hq⟩ := h; rfl) (fun cdv A outer s H vs Q E hr h => ?_)
  obtain ⟨v, b, rfl, ⟨a, ts, rfl, ha, hb⟩, hq⟩ := h
  refine ⟨_, (pss_cons (ps_set (i := 1) sc_names_in.nd rfl (Or.inl rfl) (pe_lst pa_nil)) (pss_cons (ps_for (passes_of rfl) rfl (pi_tup (pv 0)) (pg_name (i := 2) sc_names_in.nd rfl (Or.inl rfl)) (pss_cons (ps_set (i := 3) sc_names_in.nd rfl (Or.inl rfl) (pe_lst pa_nil)) (pss_cons (ps_if (pt_cmpR op_eq (pe_ix (r := rIxT K) ix_tup (pv 2) (pe_int) (fun _ _ => rfl)) (pe_str) (nomark _)) (pss_one ps_never) (pss_one (ps_if (pt_cmpR (r := rIn K false) op_in_seq (pe_ix (r := rIxT K) ix_tup (pv 2) (pe_int) (fun _ _ => rfl)) (pe_tup (pa_cons (pe_str) (pa_cons (pe_str) pa_nil))) (by rfl)) (pss_one ps_never) pss_nil))) (pss_one (ps_for (passes_of rfl) rfl (pi_list (pv 3)) (pg_name (i := 4) sc_names_in.nd rfl (Or.inl rfl)) (pss_one ps_never)))))) (pss_one (ps_ret (pv 1))))), ?_⟩
  refine start_of (σ := [some (.ref a), none, none, none, none]) rfl ?_
  simp only [rd, rd2, rd3, rd4, List.getElem?_cons_zero, List.getElem?_cons_succ, Option.some.injEq, exists_eq_left', exists_eq_left, exists_and_left, exists_and_right, List.cons.injEq, V.str.injEq, V.int.injEq, V.bl.injEq, V.ref.injEq, V.ty.injEq, and_true, true_and, List.set_cons_zero, List.set_cons_succ, exists_const, exists_false, reduceCtorEq, ↓reduceIte, exists_eq, exists_eq', and_self, cxK, wipe, List.map_cons, List.map_nil, List.length_cons, List.length_nil, Nat.zero_add, Nat.reduceAdd, Int.cast_ofNat_Int, Int.reduceEq, Int.reduceLE, Int.reduceLT, decide_eq_true_eq, decide_true, decide_false, Bool.true_eq_false, Bool.false_eq_true, Bool.not_true, Bool.not_false]
  refine ⟨Nat.zero_le _, fun l hl => ⟨⟨_, same_tup (same_upd hl) ha⟩, ?_⟩⟩
  refine forK (walk_tup (xs := ts)) (fun i σ H' => Same (upd H l (.lst [])) H' ∧ ∃ x y z, σ = [some (.ref a), some (.ref l), x, y, z]) ⟨Same.refl _, _, _, _, rfl⟩ (fun i σ H' _ e => same_tup ((same_upd hl).trans e.1) ha) (fun i v σ H1 H2 hi e y => ?_) fun σ H' e => ?_
  · obtain ⟨s1, x, y0, z, rfl⟩ := e
    obtain ⟨rfl, hx⟩ := y
    obtain ⟨k, t, rfl, ht⟩ := hb.mem (List.mem_of_getElem? hx)
    simp only [rd, rd2, rd3, rd4, List.getElem?_cons_zero, List.getElem?_cons_succ, Option.some.injEq, exists_eq_left', exists_eq_left, exists_and_left, exists_and_right, List.cons.injEq, V.str.injEq, V.int.injEq, V.bl.injEq, V.ref.injEq, V.ty.injEq, and_true, true_and, List.set_cons_zero, List.set_cons_succ, exists_const, exists_false, reduceCtorEq, ↓reduceIte, exists_eq, exists_eq', and_self, cxK, wipe, List.map_cons, List.map_nil, List.length_cons, List.length_nil, Nat.zero_add, Nat.reduceAdd, Int.cast_ofNat_Int, Int.reduceEq, Int.reduceLE, Int.reduceLT, decide_eq_true_eq, decide_true, decide_false, Bool.true_eq_false, Bool.false_eq_true, Bool.not_true, Bool.not_false]
    refine ⟨Nat.zero_le _, fun l2 h2 => ?_⟩
    have s2 := s1.trans (same_upd (o := .lst []) h2)
    have t2 := same_tup ((same_upd hl).trans s2) ht.1
    refine ⟨_, t2, _, rfl, ?_⟩
    simp only [rd, rd2, rd3, rd4, List.getElem?_cons_zero, List.getElem?_cons_succ, Option.some.injEq, exists_eq_left', exists_eq_left, exists_and_left, exists_and_right, List.cons.injEq, V.str.injEq, V.int.injEq, V.bl.injEq, V.ref.injEq, V.ty.injEq, and_true, true_and, List.set_cons_zero, List.set_cons_succ, exists_const, exists_false, reduceCtorEq, ↓reduceIte, exists_eq, exists_eq', and_self, cxK, wipe, List.map_cons, List.map_nil, List.length_cons, List.length_nil, Nat.zero_add, Nat.reduceAdd, Int.cast_ofNat_Int, Int.reduceEq, Int.reduceLE, Int.reduceLT, decide_eq_true_eq, decide_true, decide_false, Bool.true_eq_false, Bool.false_eq_true, Bool.not_true, Bool.not_false, sNe]
    refine ⟨_, t2, _, rfl, by decide, fun p hp => ⟨_, .inr (.of upd_same), rfl, rfl, ?_⟩⟩
    rw [if_neg (by decide)]
    have hl2 : upd (upd H2 l2 (.lst [])) p (.tup [.str "do", .str "undo"]) l2 = some (.lst []) := by rw [upd_ne (ne_of_none upd_same hp), upd_same]
    refine ⟨⟨_, .of hl2⟩, ?_⟩
    refine forK (walk_list (xs := [])) (fun i σ' H' => σ' = [some (.ref a), some (.ref l), some (.ref t), some (.ref l2), z] ∧ H' = upd (upd H2 l2 (.lst [])) p (.tup [.str "do", .str "undo"])) ⟨rfl, rfl⟩ (fun i σ H' _ e => e.2 ▸ .of hl2) (fun i _ _ _ _ hi => absurd hi (Nat.not_lt_zero i)) fun σ' H' e => ?_
    obtain ⟨rfl, rfl⟩ := e
    exact ⟨s2.trans (same_upd hp), _, _, _, rfl⟩
  · obtain ⟨s1, x, y0, z, rfl⟩ := e
    simp only [rd, rd2, rd3, rd4, List.getElem?_cons_zero, List.getElem?_cons_succ, Option.some.injEq, exists_eq_left', exists_eq_left, exists_and_left, exists_and_right, List.cons.injEq, V.str.injEq, V.int.injEq, V.bl.injEq, V.ref.injEq, V.ty.injEq, and_true, true_and, List.set_cons_zero, List.set_cons_succ, exists_const, exists_false, reduceCtorEq, ↓reduceIte, exists_eq, exists_eq', and_self, cxK, wipe, List.map_cons, List.map_nil, List.length_cons, List.length_nil, Nat.zero_add, Nat.reduceAdd, Int.cast_ofNat_Int, Int.reduceEq, Int.reduceLE, Int.reduceLT, decide_eq_true_eq, decide_true, decide_false, Bool.true_eq_false, Bool.false_eq_true, Bool.not_true, Bool.not_false]
    exact hq _ _ ((same_upd hl).trans s1) (s1 _ _ upd_same) hl
/-! renamed -/
def sp_renamed (K : PySem.W.Frag) : Sp := fun vs H Q E => ∃ v b o n, vs = [v, o, n] ∧ BlkAt K H v b ∧ ∀ H' u, Same H H' → BlkAt K H' u b → Q u H'
abbrev sc_renamedN : List Str := ["block", "old", "new", "result", "statement"]
theorem sc_renamed : FnScope sc_renamedN ["block", "old", "new"] (defScope (topS 49)) := ⟨rfl, rfl, rfl, by decide +kernel, rfl, by decide +kernel, by decide +kernel⟩
theorem r_renamed {P : Program} {w : World} {K : PySem.W.Frag} {mg : Str → Option Value} {base : Heap} (T : Tx w K mg) : FnR P w K mg base (L2.CX P w) 1 (He.ga K "renamed") (sp_renamed K) := by
  refine mkR T.f_renamed sc_renamed (fun _ _ _ _ _ _ us hl => match us, hl with | [_, _, _], _ => rfl) (fun vs H Q E h => by obtain ⟨v, b, o, n, rfl, ⟨a, ts, rfl, ha, hb⟩, hq⟩ := h; rfl) (fun cdv A outer s H vs Q E hr h => ?_)
  obtain ⟨v, b, o, n, rfl, ⟨a, ts, rfl, ha, hb⟩, hq⟩ := h
  refine ⟨_, (pss_cons (ps_set (i := 3) sc_renamed.nd rfl (Or.inl rfl) (pe_lst pa_nil)) (pss_cons (ps_for (passes_of rfl) rfl (pi_tup (pv 0)) (pg_name (i := 4) sc_renamed.nd rfl (Or.inl rfl)) (pss_one (ps_if (pt_cmpR op_eq (pe_ix (r := rIxT K) ix_tup (pv 4) (pe_int) (fun _ _ => rfl)) (pe_str) (nomark _)) (pss_one ps_never) (pss_one (ps_if (PW.pt (pw_and (pt_cmpR (r := rIn K false) op_in_seq (pe_ix (r := rIxT K) ix_tup (pv 4) (pe_int) (fun _ _ => rfl)) (pe_tup (pa_cons (pe_str) (pa_cons (pe_str) pa_nil))) (by rfl)) (pw_and1 pt_never))) (pss_one ps_never) (pss_one (ps_expr (pe_bm PySem.F.plainAttrs_list PySem.F.slot_list_append PySem.F.type_list_append mt_append (pv 3) (pa_cons (pv 4) pa_nil))))))))) (pss_one (ps_ret (pe_callTy (r := rTupOf K) call_tupS (by rfl) T.n_tuple (by decide +kernel) (pa_cons (pv 3) pa_nil)))))), ?_⟩
  refine start_of (σ := [some (.ref a), some o, some n, none, none]) rfl ?_
  simp only [rd, rd2, rd3, rd4, List.getElem?_cons_zero, List.getElem?_cons_succ, Option.some.injEq, exists_eq_left', exists_eq_left, exists_and_left, exists_and_right, List.cons.injEq, V.str.injEq, V.int.injEq, V.bl.injEq, V.ref.injEq, V.ty.injEq, and_true, true_and, List.set_cons_zero, List.set_cons_succ, exists_const, exists_false, reduceCtorEq, ↓reduceIte, exists_eq, exists_eq', and_self, cxK, wipe, List.map_cons, List.map_nil, List.length_cons, List.length_nil, Nat.zero_add, Nat.reduceAdd, Int.cast_ofNat_Int, Int.reduceEq, Int.reduceLE, Int.reduceLT, decide_eq_true_eq, decide_true, decide_false, Bool.true_eq_false, Bool.false_eq_true, Bool.not_true, Bool.not_false]
  refine ⟨Nat.zero_le _, fun l hl => ⟨⟨_, same_tup (same_upd hl) ha⟩, ?_⟩⟩
  refine forK (walk_tup (xs := ts)) (fun i σ H' => Same H H' ∧ H' l = some (.lst (ts.take i)) ∧ ∃ x, σ = [some (.ref a), some o, some n, some (.ref l), x]) ⟨same_upd hl, upd_same, _, rfl⟩ (fun i σ H' _ e => same_tup e.1 ha) (fun i v σ H1 H2 hi e y => ?_) fun σ H' e => ?_
  · obtain ⟨s1, hL, x, rfl⟩ := e
    obtain ⟨rfl, hx⟩ := y
    obtain ⟨k, t, rfl, ht⟩ := hb.mem (List.mem_of_getElem? hx)
    have t2 := same_tup s1 ht.1
    simp only [rd, rd2, rd3, rd4, List.getElem?_cons_zero, List.getElem?_cons_succ, Option.some.injEq, exists_eq_left', exists_eq_left, exists_and_left, exists_and_right, List.cons.injEq, V.str.injEq, V.int.injEq, V.bl.injEq, V.ref.injEq, V.ty.injEq, and_true, true_and, List.set_cons_zero, List.set_cons_succ, exists_const, exists_false, reduceCtorEq, ↓reduceIte, exists_eq, exists_eq', and_self, cxK, wipe, List.map_cons, List.map_nil, List.length_cons, List.length_nil, Nat.zero_add, Nat.reduceAdd, Int.cast_ofNat_Int, Int.reduceEq, Int.reduceLE, Int.reduceLT, decide_eq_true_eq, decide_true, decide_false, Bool.true_eq_false, Bool.false_eq_true, Bool.not_true, Bool.not_false]
    refine ⟨_, t2, _, rfl, ?_⟩
    simp only [rd, rd2, rd3, rd4, List.getElem?_cons_zero, List.getElem?_cons_succ, Option.some.injEq, exists_eq_left', exists_eq_left, exists_and_left, exists_and_right, List.cons.injEq, V.str.injEq, V.int.injEq, V.bl.injEq, V.ref.injEq, V.ty.injEq, and_true, true_and, List.set_cons_zero, List.set_cons_succ, exists_const, exists_false, reduceCtorEq, ↓reduceIte, exists_eq, exists_eq', and_self, cxK, wipe, List.map_cons, List.map_nil, List.length_cons, List.length_nil, Nat.zero_add, Nat.reduceAdd, Int.cast_ofNat_Int, Int.reduceEq, Int.reduceLE, Int.reduceLT, decide_eq_true_eq, decide_true, decide_false, Bool.true_eq_false, Bool.false_eq_true, Bool.not_true, Bool.not_false, sNe]
    refine ⟨_, t2, _, rfl, by decide, fun p hp => ⟨_, .inr (.of upd_same), rfl, rfl, ?_⟩⟩
    rw [if_neg (by decide)]
    have hl2 : upd H2 p (.tup [.str "do", .str "undo"]) l = some (.lst (ts.take i)) := by rw [upd_ne (ne_of_none hL hp)]; exact hL
    refine ⟨.inl ⟨rfl, _, .of hl2⟩, _, _, _, rfl, rfl, hl2, ?_, ?_⟩
    · rw [sizeLine_eq, List.length_take]; have := hb.few; omega
    · simp only [rd, rd2, rd3, rd4, List.getElem?_cons_zero, List.getElem?_cons_succ, Option.some.injEq, exists_eq_left', exists_eq_left, exists_and_left, exists_and_right, List.cons.injEq, V.str.injEq, V.int.injEq, V.bl.injEq, V.ref.injEq, V.ty.injEq, and_true, true_and, List.set_cons_zero, List.set_cons_succ, exists_const, exists_false, reduceCtorEq, ↓reduceIte, exists_eq, exists_eq', and_self, cxK, wipe, List.map_cons, List.map_nil, List.length_cons, List.length_nil, Nat.zero_add, Nat.reduceAdd, Int.cast_ofNat_Int, Int.reduceEq, Int.reduceLE, Int.reduceLT, decide_eq_true_eq, decide_true, decide_false, Bool.true_eq_false, Bool.false_eq_true, Bool.not_true, Bool.not_false]
      have he : ts.take (i + 1) = ts.take i ++ [.ref t] := by rw [List.take_add_one, hx]; rfl
      refine ⟨fun c o e => ?_, by rw [upd_same, he]⟩
      rw [upd_ne (ne_of_none e hl)]
      exact same_upd hp _ _ (s1 _ _ e)
  · obtain ⟨s1, hL, x, rfl⟩ := e
    rw [List.take_length] at hL
    simp only [rd, rd2, rd3, rd4, List.getElem?_cons_zero, List.getElem?_cons_succ, Option.some.injEq, exists_eq_left', exists_eq_left, exists_and_left, exists_and_right, List.cons.injEq, V.str.injEq, V.int.injEq, V.bl.injEq, V.ref.injEq, V.ty.injEq, and_true, true_and, List.set_cons_zero, List.set_cons_succ, exists_const, exists_false, reduceCtorEq, ↓reduceIte, exists_eq, exists_eq', and_self, cxK, wipe, List.map_cons, List.map_nil, List.length_cons, List.length_nil, Nat.zero_add, Nat.reduceAdd, Int.cast_ofNat_Int, Int.reduceEq, Int.reduceLE, Int.reduceLT, decide_eq_true_eq, decide_true, decide_false, Bool.true_eq_false, Bool.false_eq_true, Bool.not_true, Bool.not_false]
    refine ⟨_, .of hL, fun p hp => ?_⟩
    have s2 := s1.trans (same_upd (o := .tup ts) hp)
    exact hq _ _ s2 ⟨p, ts, rfl, .of upd_same, hb.same s2⟩
end Sf

/-! ### parts -/
namespace Sf
open PySem PySem.Spec PyProof.Rows L2
section
variable {K : PySem.W.Frag} {H H' : Hp}
theorem PutAt.sx {x t : Addr} {k : Int} (s : SX x H H') (n : NT H x) (h : PutAt K H t k) : PutAt K H' t k := ⟨s.tup n h.1, h.2⟩
theorem Sts.sx {x : Addr} {b : Option Int} {ts : List V} (s : SX x H H') (n : NT H x) (h : Sts K H b ts) : Sts K H' b ts := by
  cases b with
  | none => exact h
  | some k => obtain ⟨t, e, h⟩ := h; exact ⟨t, e, h.sx s n⟩
theorem BlkAt.sx {x : Addr} {v : V} {b : Option Int} (s : SX x H H') (n : NT H x) (h : BlkAt K H v b) : BlkAt K H' v b := by
  obtain ⟨a, ts, e, h1, h2⟩ := h
  exact ⟨a, ts, e, s.tup n h1, h2.sx s n⟩
def MeasAt (K : PySem.W.Frag) (H : Hp) (v : V) : Prop := ∃ t, ∃ p : Int, v = .ref t ∧ SqT K H t [.int 0, .int p] ∧ 0 ≤ p ∧ p ≤ 1
theorem MeasAt.sx {x : Addr} {v : V} (s : SX x H H') (n : NT H x) (h : MeasAt K H v) : MeasAt K H' v := by
  obtain ⟨t, p, e, h1, h2⟩ := h
  exact ⟨t, p, e, s.tup n h1, h2⟩
theorem MeasAt.same {v : V} (s : Same H H') (h : MeasAt K H v) : MeasAt K H' v := by
  obtain ⟨t, p, e, h1, h2⟩ := h
  exact ⟨t, p, e, same_tup s h1, h2⟩
theorem dget_in {d : Addr} {x : Str} {ks : List Str} {val : Str → V} (hd : Rd H d (.dK (kvL val ks))) (hx : x ∈ ks) : DGet H d (.str x) (some (val x)) := .inl ⟨_, Sum.inr x, hd, rfl, by rw [kvL_get, if_pos hx]⟩
theorem dget_out {d : Addr} {x : Str} {ks : List Str} {val : Str → V} (hd : Rd H d (.dK (kvL val ks))) (hx : x ∉ ks) : DGet H d (.str x) none := .inl ⟨_, Sum.inr x, hd, rfl, by rw [kvL_get, if_neg hx]⟩
def BlksAt (K : PySem.W.Frag) (H : Hp) (ks : List Str) (val : Str → V) (bl : Str → Option Int) : Prop := ∀ z ∈ ks, BlkAt K H (val z) (bl z)
def OkN (ks : List Str) : Prop := ks.Nodup ∧ Up ks ∧ ks.length ≤ 12 ∧ ∀ z ∈ ks, Nm z = true
def PartsAt (K : PySem.W.Frag) (H : Hp) (p : V) (d : Int) (ks : List Str) (bl : Str → Option Int) : Prop :=
  ∃ a dx kd kn val, p = .ref a ∧ H a = some (.ins (He.ga K "Parts") dx [("ground", .int d), ("kept", .ref kd), ("known", kn)]) ∧ H kd = some (.dK (kvL val ks)) ∧ BlksAt K H ks val bl ∧ OkN ks ∧ 1 ≤ d ∧ d ≤ 3
theorem PartsAt.same {p : V} {d : Int} {ks : List Str} {bl : Str → Option Int} (s : Same H H') (h : PartsAt K H p d ks bl) : PartsAt K H' p d ks bl := by
  obtain ⟨a, dx, kd, kn, val, e, h1, h2, h3, h4⟩ := h
  exact ⟨a, dx, kd, kn, val, e, s _ _ h1, s _ _ h2, fun z hz => (h3 z hz).same s, h4⟩
end
/-! is_circular -/
def sp_is_circular (K : PySem.W.Frag) : Sp := fun vs H Q E => ∃ d ks val b x, vs = [.ref d, .str x] ∧ Rd H d (.dK (kvL val ks)) ∧ x ∈ ks ∧ BlkAt K H (val x) b ∧ ∀ H', Same H H' → Q (.bl false) H'
abbrev sc_is_circularN : List Str := ["blocks", "name", "seen", "waiting", "other"]
theorem sc_is_circular : FnScope sc_is_circularN ["blocks", "name"] (defScope (topS 54)) := ⟨rfl, rfl, rfl, by decide +kernel, rfl, by decide +kernel, by decide +kernel⟩
theorem r_is_circular {P : Program} {w : World} {K : PySem.W.Frag} {mg : Str → Option Value} {base : Heap} (T : Tx w K mg) : FnR P w K mg base (L2.CX P w) 2 (He.ga K "is_circular") (sp_is_circular K) := by
  refine mkR T.f_is_circular sc_is_circular (fun _ _ _ _ _ _ us hl => match us, hl with | [_, _], _ => rfl) (fun vs H Q E h => by obtain ⟨d, ks, val, b, x, rfl, hd, hx, hb, hq⟩ := h; rfl) (fun cdv A outer s H vs Q E hr h => ?_)
  obtain ⟨d, ks, val, b, x, rfl, hd, hx, hb, hq⟩ := h
  refine ⟨_, (pss_cons (ps_set (i := 2) sc_is_circular.nd rfl (Or.inl rfl) (pe_lst pa_nil)) (pss_cons (ps_set (i := 3) sc_is_circular.nd rfl (Or.inl rfl) (pe_f (r_names_in (P := P) (w := w) (K := K) (base := base) T) T.g_names_in T.f_names_in.keep hr passL (pa_cons (pe_dget (hu_of hr) (pv 0) (pv 1) (fun _ _ => rfl)) pa_nil))) (pss_cons (ps_while (passes_of rfl) (pt_cmpR (r := rNeD K) (op_neD hr.units) (pv 3) (pe_lst pa_nil) (nomark _)) (pss_cons ps_never (pss_one ps_never))) (pss_one (ps_ret (pe_cmpR (r := rIn K false) op_in_seq (pv 1) (pv 2) (by rfl))))))), ?_⟩
  refine start_of (σ := [some (.ref d), some (.str x), none, none, none]) rfl ?_
  simp only [rd, rd2, rd3, rd4, List.getElem?_cons_zero, List.getElem?_cons_succ, Option.some.injEq, exists_eq_left', exists_eq_left, exists_and_left, exists_and_right, List.cons.injEq, V.str.injEq, V.int.injEq, V.bl.injEq, V.ref.injEq, V.ty.injEq, and_true, true_and, List.set_cons_zero, List.set_cons_succ, exists_const, exists_false, reduceCtorEq, ↓reduceIte, exists_eq, exists_eq', and_self, cxK, wipe, List.map_cons, List.map_nil, List.length_cons, List.length_nil, Nat.zero_add, Nat.reduceAdd, Int.cast_ofNat_Int, Int.reduceEq, Int.reduceLE, Int.reduceLT, decide_eq_true_eq, decide_true, decide_false, Bool.true_eq_false, Bool.false_eq_true, Bool.not_true, Bool.not_false]
  refine ⟨Nat.zero_le _, fun p hp => ⟨val x, dget_in (same_rd (same_upd hp) hd) hx, _, b, rfl, hb.same (same_upd hp), fun H1 l s1 hl _ => ?_⟩⟩
  refine ⟨fun m σ H' => σ = [some (.ref d), some (.str x), some (.ref p), some (.ref l), none] ∧ Same H1 H', ⟨0, rfl, .refl _⟩, fun m σ H2 e => ?_⟩
  obtain ⟨rfl, s2⟩ := e
  simp only [rd, rd2, rd3, rd4, List.getElem?_cons_zero, List.getElem?_cons_succ, Option.some.injEq, exists_eq_left', exists_eq_left, exists_and_left, exists_and_right, List.cons.injEq, V.str.injEq, V.int.injEq, V.bl.injEq, V.ref.injEq, V.ty.injEq, and_true, true_and, List.set_cons_zero, List.set_cons_succ, exists_const, exists_false, reduceCtorEq, ↓reduceIte, exists_eq, exists_eq', and_self, cxK, wipe, List.map_cons, List.map_nil, List.length_cons, List.length_nil, Nat.zero_add, Nat.reduceAdd, Int.cast_ofNat_Int, Int.reduceEq, Int.reduceLE, Int.reduceLT, decide_eq_true_eq, decide_true, decide_false, Bool.true_eq_false, Bool.false_eq_true, Bool.not_true, Bool.not_false]
  refine ⟨Nat.zero_le _, fun p2 h2 => ⟨_, _, .lst (.of ((same_upd h2) _ _ (s2 _ _ hl))) .nil, .lst (.of upd_same) .nil, rfl, rfl, false, rfl, ?_⟩⟩
  rw [if_neg Bool.false_ne_true]
  have s3 := s1.trans (s2.trans (same_upd (o := .lst []) h2))
  exact ⟨_, .inl (.of (s3 _ _ upd_same)), rfl, rfl, hq _ ((same_upd hp).trans s3)⟩
/-! measured -/
def sp_measured (K : PySem.W.Frag) : Sp := fun vs H Q E => ∃ v b kn, vs = [v, kn] ∧ BlkAt K H v b ∧ ∀ H' t, Same H H' → MeasAt K H' t → Q t H'
abbrev sc_measuredN : List Str := ["block", "known", "deep", "puts", "statement", "inner"]
theorem sc_measured : FnScope sc_measuredN ["block", "known"] (defScope (topS 55)) := ⟨rfl, rfl, rfl, by decide +kernel, rfl, by decide +kernel, by decide +kernel⟩
theorem r_measured {P : Program} {w : World} {K : PySem.W.Frag} {mg : Str → Option Value} {base : Heap} (T : Tx w K mg) : FnR P w K mg base (L2.CX P w) 1 (He.ga K "measured") (sp_measured K) := by
  refine mkR T.f_measured sc_measured (fun _ _ _ _ _ _ us hl => match us, hl with | [_, _], _ => rfl) (fun vs H Q E h => by obtain ⟨v, b, kn, rfl, ⟨a, ts, rfl, ha, hb⟩, hq⟩ := h; rfl) (fun cdv A outer s H vs Q E hr h => ?_)
  obtain ⟨v, b, kn, rfl, ⟨a, ts, rfl, ha, hb⟩, hq⟩ := h
  refine ⟨_, (pss_cons (ps_set (i := 2) sc_measured.nd rfl (Or.inl rfl) (pe_int)) (pss_cons (ps_set (i := 3) sc_measured.nd rfl (Or.inl rfl) (pe_int)) (pss_cons (ps_for (passes_of rfl) rfl (pi_tup (pv 0)) (pg_name (i := 4) sc_measured.nd rfl (Or.inl rfl)) (pss_cons (ps_set (i := 5) sc_measured.nd rfl (Or.inl rfl) (pe_tup (pa_cons (pe_int) (pa_cons (pe_callTy call_intB (by rfl) T.n_int (by decide +kernel) (pa_cons (pe_cmpR op_eq (pe_ix (r := rIxT K) ix_tup (pv 4) (pe_int) (fun _ _ => rfl)) (pe_str) (nomark _)) pa_nil)) pa_nil)))) (pss_cons (ps_if (pt_cmpR op_eq (pe_ix (r := rIxT K) ix_tup (pv 4) (pe_int) (fun _ _ => rfl)) (pe_str) (nomark _)) (pss_cons ps_never (pss_one ps_never)) (pss_one (ps_if (pt_cmpR (r := rIn K false) op_in_seq (pe_ix (r := rIxT K) ix_tup (pv 4) (pe_int) (fun _ _ => rfl)) (pe_tup (pa_cons (pe_str) (pa_cons (pe_str) pa_nil))) (by rfl)) (pss_one ps_never) pss_nil))) (pss_cons (ps_set (i := 2) sc_measured.nd rfl (Or.inl rfl) (pe_callB (call_max2 rfl) (by rfl) T.n_max (by decide +kernel) (pa_cons (pv 2) (pa_cons (pe_ix (r := rIxT K) ix_tup (pv 5) (pe_int) (fun _ _ => rfl)) pa_nil)))) (pss_one (ps_aug (i := 3) sc_measured.nd rfl (Or.inl rfl) (pe_ix (r := rIxT K) ix_tup (pv 5) (pe_int) (fun _ _ => rfl)) ip_add)))))) (pss_one (ps_ret (pe_tup (pa_cons (pv 2) (pa_cons (pv 3) pa_nil)))))))), ?_⟩
  refine start_of (σ := [some (.ref a), some kn, none, none, none, none]) rfl ?_
  simp only [rd, rd2, rd3, rd4, List.getElem?_cons_zero, List.getElem?_cons_succ, Option.some.injEq, exists_eq_left', exists_eq_left, exists_and_left, exists_and_right, List.cons.injEq, V.str.injEq, V.int.injEq, V.bl.injEq, V.ref.injEq, V.ty.injEq, and_true, true_and, List.set_cons_zero, List.set_cons_succ, exists_const, exists_false, reduceCtorEq, ↓reduceIte, exists_eq, exists_eq', and_self, cxK, wipe, List.map_cons, List.map_nil, List.length_cons, List.length_nil, Nat.zero_add, Nat.reduceAdd, Int.cast_ofNat_Int, Int.reduceEq, Int.reduceLE, Int.reduceLT, decide_eq_true_eq, decide_true, decide_false, Bool.true_eq_false, Bool.false_eq_true, Bool.not_true, Bool.not_false]
  refine ⟨⟨_, ha⟩, ?_⟩
  refine forK (walk_tup (xs := ts)) (fun i σ H' => Same H H' ∧ ∃ x y, σ = [some (.ref a), some kn, some (.int 0), some (.int i), x, y]) ⟨.refl _, _, _, rfl⟩ (fun i σ H' _ e => same_tup e.1 ha) (fun i v σ H1 H2 hi e y => ?_) fun σ H' e => ?_
  · obtain ⟨s1, x, y0, rfl⟩ := e
    obtain ⟨rfl, hx⟩ := y
    obtain ⟨k, t, rfl, ht⟩ := hb.mem (List.mem_of_getElem? hx)
    have t2 := same_tup s1 ht.1
    simp only [rd, rd2, rd3, rd4, List.getElem?_cons_zero, List.getElem?_cons_succ, Option.some.injEq, exists_eq_left', exists_eq_left, exists_and_left, exists_and_right, List.cons.injEq, V.str.injEq, V.int.injEq, V.bl.injEq, V.ref.injEq, V.ty.injEq, and_true, true_and, List.set_cons_zero, List.set_cons_succ, exists_const, exists_false, reduceCtorEq, ↓reduceIte, exists_eq, exists_eq', and_self, cxK, wipe, List.map_cons, List.map_nil, List.length_cons, List.length_nil, Nat.zero_add, Nat.reduceAdd, Int.cast_ofNat_Int, Int.reduceEq, Int.reduceLE, Int.reduceLT, decide_eq_true_eq, decide_true, decide_false, Bool.true_eq_false, Bool.false_eq_true, Bool.not_true, Bool.not_false]
    refine ⟨_, t2, _, rfl, ?_⟩
    simp only [rd, rd2, rd3, rd4, List.getElem?_cons_zero, List.getElem?_cons_succ, Option.some.injEq, exists_eq_left', exists_eq_left, exists_and_left, exists_and_right, List.cons.injEq, V.str.injEq, V.int.injEq, V.bl.injEq, V.ref.injEq, V.ty.injEq, and_true, true_and, List.set_cons_zero, List.set_cons_succ, exists_const, exists_false, reduceCtorEq, ↓reduceIte, exists_eq, exists_eq', and_self, cxK, wipe, List.map_cons, List.map_nil, List.length_cons, List.length_nil, Nat.zero_add, Nat.reduceAdd, Int.cast_ofNat_Int, Int.reduceEq, Int.reduceLE, Int.reduceLT, decide_eq_true_eq, decide_true, decide_false, Bool.true_eq_false, Bool.false_eq_true, Bool.not_true, Bool.not_false, sNe]
    refine ⟨by decide, fun p hp => ?_⟩
    have t3 := same_tup (same_upd (o := .tup [.int 0, .int 1]) hp) t2
    refine ⟨_, t3, _, rfl, ?_⟩
    simp only [rd, rd2, rd3, rd4, List.getElem?_cons_zero, List.getElem?_cons_succ, Option.some.injEq, exists_eq_left', exists_eq_left, exists_and_left, exists_and_right, List.cons.injEq, V.str.injEq, V.int.injEq, V.bl.injEq, V.ref.injEq, V.ty.injEq, and_true, true_and, List.set_cons_zero, List.set_cons_succ, exists_const, exists_false, reduceCtorEq, ↓reduceIte, exists_eq, exists_eq', and_self, cxK, wipe, List.map_cons, List.map_nil, List.length_cons, List.length_nil, Nat.zero_add, Nat.reduceAdd, Int.cast_ofNat_Int, Int.reduceEq, Int.reduceLE, Int.reduceLT, decide_eq_true_eq, decide_true, decide_false, Bool.true_eq_false, Bool.false_eq_true, Bool.not_true, Bool.not_false, sNe]
    refine ⟨_, t3, _, rfl, by decide, fun p2 h2 => ⟨_, .inr (.of upd_same), rfl, rfl, ?_⟩⟩
    rw [if_neg (by decide)]
    have s3 := (s1.trans (same_upd (o := .tup [.int 0, .int 1]) hp)).trans (same_upd (o := .tup [.str "do", .str "undo"]) h2)
    have tp : SqT K (upd (upd H2 p (.tup [.int 0, .int 1])) p2 (.tup [.str "do", .str "undo"])) p [.int 0, .int 1] := same_tup (same_upd h2) (.of upd_same)
    refine ⟨_, tp, _, rfl, 0, 0, ⟨rfl, rfl⟩, _, tp, _, rfl, _, rfl, s3, rfl, ?_⟩
    omega
  · obtain ⟨s1, x, y0, rfl⟩ := e
    simp only [rd, rd2, rd3, rd4, List.getElem?_cons_zero, List.getElem?_cons_succ, Option.some.injEq, exists_eq_left', exists_eq_left, exists_and_left, exists_and_right, List.cons.injEq, V.str.injEq, V.int.injEq, V.bl.injEq, V.ref.injEq, V.ty.injEq, and_true, true_and, List.set_cons_zero, List.set_cons_succ, exists_const, exists_false, reduceCtorEq, ↓reduceIte, exists_eq, exists_eq', and_self, cxK, wipe, List.map_cons, List.map_nil, List.length_cons, List.length_nil, Nat.zero_add, Nat.reduceAdd, Int.cast_ofNat_Int, Int.reduceEq, Int.reduceLE, Int.reduceLT, decide_eq_true_eq, decide_true, decide_false, Bool.true_eq_false, Bool.false_eq_true, Bool.not_true, Bool.not_false]
    have := hb.few
    exact ⟨by decide, fun p hp => hq _ _ (s1.trans (same_upd hp)) ⟨p, _, rfl, .of upd_same, by omega, by omega⟩⟩
/-! measures -/
def sp_measures (K : PySem.W.Frag) : Sp := fun vs H Q E => ∃ d ks val bl, vs = [.ref d] ∧ H d = some (.dK (kvL val ks)) ∧ ks.Nodup ∧ ks.length ≤ 12 ∧ BlksAt K H ks val bl ∧ ∀ H' kn kk, Same H H' → H' kn = some (.dK kk) → (∀ z ∈ ks, ∃ t, valV kk (Sum.inr z) = some t ∧ MeasAt K H' t) → Q (.ref kn) H'
abbrev sc_measuresN : List Str := ["blocks", "known", "name", "other"]
theorem sc_measures : FnScope sc_measuresN ["blocks"] (defScope (topS 56)) := ⟨rfl, rfl, rfl, by decide +kernel, rfl, by decide +kernel, by decide +kernel⟩
theorem r_measures {P : Program} {w : World} {K : PySem.W.Frag} {mg : Str → Option Value} {base : Heap} (T : Tx w K mg) : FnR P w K mg base (L2.CX P w) 2 (He.ga K "measures") (sp_measures K) := by
  refine mkR T.f_measures sc_measures (fun _ _ _ _ _ _ us hl => match us, hl with | [_], _ => rfl) (fun vs H Q E h => by obtain ⟨d, ks, val, bl, rfl, hd, nd, hl, hb, hq⟩ := h; rfl) (fun cdv A outer s H vs Q E hr h => ?_)
  obtain ⟨d, ks, val, bl, rfl, hd, nd, hl, hb, hq⟩ := h
  refine ⟨_, (pss_cons (ps_set (i := 1) sc_measures.nd rfl (Or.inr rfl) (pe_dnewK)) (pss_cons (ps_while (passes_of rfl) (pt_cmpR op_lt (pe_callB call_lenD (by rfl) T.n_len boot_len (pa_cons (pv 1) pa_nil)) (pe_callB call_lenD (by rfl) T.n_len boot_len (pa_cons (pv 0) pa_nil)) (nomark _)) (pss_one (ps_for (passes_of rfl) rfl (pi_list (pe_callB (call_sortedD rfl) (by rfl) T.n_sorted (by decide +kernel) (pa_cons (pv 0) pa_nil))) (pg_name (i := 2) sc_measures.nd rfl (Or.inl rfl)) (pss_one (ps_if (PW.pt (pw_and (pt_cmp (pc_dnotin (hu_of hr) (pv 2) (pv 1))) (pw_and1 (pt_val (pe_callB (r := rAll K) (cr_all rfl) (by rfl) T.n_all (by decide +kernel) (pa_cons (pe_lc (own := [("other", 3)]) (g := gName 3) (tt := tYes) rfl sc_measures.nd (pi_list (pe_f (r_names_in (P := P) (w := w) (K := K) (base := base) T) T.g_names_in T.f_names_in.keep hr passL (pa_cons (pe_dget (hu_of hr) (pv 0) (pv 2) (fun _ _ => rfl)) pa_nil))) (blkOk_by (N := sc_measuresN) (sc := (defScope (topS 56))) (by decide +kernel)) (fun _ _ _ _ _ => (pg_name (i := 3) sc_measures.nd rfl (Or.inl rfl))) (fun _ _ _ _ _ => pts_nil) (fun _ _ _ _ _ => pe_never)) pa_nil)))))) (pss_one (ps_dput (hu_of hr) (pv 1) (pv 2) (pe_f (r_measured (P := P) (w := w) (K := K) (base := base) T) T.g_measured T.f_measured.keep hr passL (pa_cons (pe_dget (hu_of hr) (pv 0) (pv 2) (fun _ _ => rfl)) (pa_cons (pv 1) pa_nil))) rfl)) pss_nil))))) (pss_one (ps_ret (pv 1))))), ?_⟩
  refine start_of (σ := [some (.ref d), none, none, none]) rfl ?_
  simp only [rd, rd2, rd3, rd4, List.getElem?_cons_zero, List.getElem?_cons_succ, Option.some.injEq, exists_eq_left', exists_eq_left, exists_and_left, exists_and_right, List.cons.injEq, V.str.injEq, V.int.injEq, V.bl.injEq, V.ref.injEq, V.ty.injEq, and_true, true_and, List.set_cons_zero, List.set_cons_succ, exists_const, exists_false, reduceCtorEq, ↓reduceIte, exists_eq, exists_eq', and_self, cxK, wipe, List.map_cons, List.map_nil, List.length_cons, List.length_nil, Nat.zero_add, Nat.reduceAdd, Int.cast_ofNat_Int, Int.reduceEq, Int.reduceLE, Int.reduceLT, decide_eq_true_eq, decide_true, decide_false, Bool.true_eq_false, Bool.false_eq_true, Bool.not_true, Bool.not_false]
  intro kn hkn
  refine ⟨fun m σ H' => Same H H' ∧ ((m = 1 ∧ σ = [some (.ref d), some (.ref kn), none, none] ∧ H' kn = some (.dK [])) ∨
    (∃ n kk, σ = [some (.ref d), some (.ref kn), n, none] ∧ H' kn = some (.dK kk) ∧ kk.length = ks.length ∧ ∀ z ∈ ks, ∃ t, valV kk (Sum.inr z) = some t ∧ MeasAt K H' t)), ⟨1, same_upd hkn, .inl ⟨rfl, rfl, upd_same⟩⟩, fun m σ H1 e => ?_⟩
  obtain ⟨s1, ⟨rfl, rfl, e1⟩ | ⟨n, kk, rfl, e1, e2, e3⟩⟩ := e
  · simp only [rd, rd2, rd3, rd4, List.getElem?_cons_zero, List.getElem?_cons_succ, Option.some.injEq, exists_eq_left', exists_eq_left, exists_and_left, exists_and_right, List.cons.injEq, V.str.injEq, V.int.injEq, V.bl.injEq, V.ref.injEq, V.ty.injEq, and_true, true_and, List.set_cons_zero, List.set_cons_succ, exists_const, exists_false, reduceCtorEq, ↓reduceIte, exists_eq, exists_eq', and_self, cxK, wipe, List.map_cons, List.map_nil, List.length_cons, List.length_nil, Nat.zero_add, Nat.reduceAdd, Int.cast_ofNat_Int, Int.reduceEq, Int.reduceLE, Int.reduceLT, decide_eq_true_eq, decide_true, decide_false, Bool.true_eq_false, Bool.false_eq_true, Bool.not_true, Bool.not_false]
    refine ⟨_, e1, _, s1 _ _ hd, ?_⟩
    rw [kvL_len]
    by_cases hz : ks = []
    · subst hz
      rw [if_neg (by simp)]
      exact hq _ _ _ s1 e1 fun z hz => nomatch hz
    · have hp : 0 < ks.length := List.length_pos_iff.mpr hz
      rw [if_pos (by simpa using hp)]
      refine ⟨fun σ' H' => Same H H' ∧ ∃ n kk, σ' = [some (.ref d), some (.ref kn), n, none] ∧ H' kn = some (.dK kk) ∧ kk.length = ks.length ∧ ∀ z ∈ ks, ∃ t, valV kk (Sum.inr z) = some t ∧ MeasAt K H' t,
        fun σ' H' q => ⟨0, by omega, q.1, .inr (by obtain ⟨_, n, kk, q1, q2⟩ := q; exact ⟨⟨n, q1⟩, kk, q2⟩)⟩, _, .inl (s1 _ _ hd), ks, kvL_keys val ks, by omega, fun ys l pm srt hl2 => ⟨⟨_, .of upd_same⟩, ?_⟩⟩
      have hly : ys.length = ks.length := pm.length_eq
      have ndy : ys.Nodup := pm.nodup_iff.mpr nd
      refine forK (walk_list (xs := ys.map V.str)) (fun i σ' H' => Same H H' ∧ H' l = some (.lst (ys.map V.str)) ∧ ∃ n kk, σ' = [some (.ref d), some (.ref kn), n, none] ∧ H' kn = some (.dK kk) ∧ kk.map (·.1) = (ys.take i).map Sum.inr ∧ ∀ z ∈ ys.take i, ∃ t, valV kk (Sum.inr z) = some t ∧ MeasAt K H' t)
        ⟨s1.trans (same_upd hl2), upd_same, none, [], rfl, by rw [upd_ne (ne_of_none e1 hl2)]; exact e1, rfl, fun z hz => nomatch hz⟩ (fun i σ H' _ e => .of e.2.1) (fun i v σ H2 H3 hi e y => ?_) fun σ' H' e => ?_
      · obtain ⟨s2, hL, n, kk, rfl, ek, ekk, em⟩ := e
        obtain ⟨rfl, hx⟩ := y
        rw [List.getElem?_map] at hx
        cases q : ys[i]? with
        | none => rw [q] at hx; cases hx
        | some z =>
          rw [q] at hx
          obtain rfl : V.str z = v := Option.some.inj hx
          have hzk : z ∈ ks := pm.mem_iff.mp (List.mem_of_getElem? q)
          have hlt : i < ys.length := by rw [List.length_map] at hi; exact hi
          have ht : ys.take (i + 1) = ys.take i ++ [z] := by rw [List.take_add_one, q] <;> rfl
          have nz : z ∉ ys.take i := fun h => by
            obtain ⟨k, hk1, hk2⟩ := List.mem_iff_getElem.mp h
            rw [List.getElem_take] at hk2
            rw [List.length_take] at hk1
            obtain ⟨hi2, q2⟩ := List.getElem?_eq_some_iff.mp q
            have := (List.getElem_inj ndy).mp (hk2.trans q2.symm)
            omega
          have vn : valV kk (Sum.inr z) = none := by
            cases w : valV kk (Sum.inr z) with
            | none => rfl
            | some u =>
              have := valV_in w
              rw [ekk] at this
              obtain ⟨y, hy, e⟩ := List.mem_map.mp this
              exact absurd (Sum.inr.inj e ▸ hy) nz
          simp only [rd, rd2, rd3, rd4, List.getElem?_cons_zero, List.getElem?_cons_succ, Option.some.injEq, exists_eq_left', exists_eq_left, exists_and_left, exists_and_right, List.cons.injEq, V.str.injEq, V.int.injEq, V.bl.injEq, V.ref.injEq, V.ty.injEq, and_true, true_and, List.set_cons_zero, List.set_cons_succ, exists_const, exists_false, reduceCtorEq, ↓reduceIte, exists_eq, exists_eq', and_self, cxK, wipe, List.map_cons, List.map_nil, List.length_cons, List.length_nil, Nat.zero_add, Nat.reduceAdd, Int.cast_ofNat_Int, Int.reduceEq, Int.reduceLE, Int.reduceLT, decide_eq_true_eq, decide_true, decide_false, Bool.true_eq_false, Bool.false_eq_true, Bool.not_true, Bool.not_false]
          refine ⟨none, .inl ⟨kk, Sum.inr z, .inl ek, rfl, vn.symm⟩, ?_⟩
          rw [if_pos (show (!(none : Option V).isSome) = true from rfl)]
          refine ⟨val z, dget_in (.inl (s2 _ _ hd)) hzk, _, bl z, rfl, (hb z hzk).same s2, fun H4 l4 s4 hl4 _ => ⟨l4, rfl, ⟨_, .of hl4⟩, ?_⟩⟩
          refine lcG (walk_list (xs := [])) (fun _ => true) (fun v => v) (Nat.zero_le _) (fun _ => rfl) (fun H' s5 => .of (s5 _ _ hl4)) (fun x H' R hx => nomatch hx) (fun x H' R hx => nomatch hx) fun D H5 s5 e5 => ?_
          simp only [rd, rd2, rd3, rd4, List.getElem?_cons_zero, List.getElem?_cons_succ, Option.some.injEq, exists_eq_left', exists_eq_left, exists_and_left, exists_and_right, List.cons.injEq, V.str.injEq, V.int.injEq, V.bl.injEq, V.ref.injEq, V.ty.injEq, and_true, true_and, List.set_cons_zero, List.set_cons_succ, exists_const, exists_false, reduceCtorEq, ↓reduceIte, exists_eq, exists_eq', and_self, cxK, wipe, List.map_cons, List.map_nil, List.length_cons, List.length_nil, Nat.zero_add, Nat.reduceAdd, Int.cast_ofNat_Int, Int.reduceEq, Int.reduceLE, Int.reduceLT, decide_eq_true_eq, decide_true, decide_false, Bool.true_eq_false, Bool.false_eq_true, Bool.not_true, Bool.not_false]
          refine ⟨[], .of e5, ?_⟩
          rw [if_pos (show ([] : List Bool).all id = true from rfl)]
          have s6 := s4.trans s5
          refine ⟨val z, dget_in (.inl (s6 _ _ (s2 _ _ hd))) hzk, _, bl z, _, rfl, (hb z hzk).same (s2.trans s6), fun H6 t s7 mt => ?_⟩
          have s8 := s6.trans s7
          have ek2 := s8 _ _ ek
          have sx : SX kn H6 (upd H6 kn (.dK (putK kk (Sum.inr z) t))) := SX.upd
          refine ⟨_, .inl ⟨kk, Sum.inr z, ek2, rfl, ?_, rfl⟩, fun b o e => sx _ _ (s8 _ _ (s2 _ _ e)) (ne_of_none e hkn), sx _ _ (s8 _ _ hL) (ne_of (s8 _ _ hL) ek2 (by intro z; cases z)), _, upd_same, ?_, fun y hy => ?_⟩
          · have := congrArg List.length ekk
            rw [List.length_map, List.length_map, List.length_take] at this
            rw [sizeLine_eq]; omega
          · rw [putK_new _ vn, List.map_append, ekk, ht, List.map_append] <;> rfl
          · rw [valV_put]
            by_cases hy2 : y = z
            · rw [if_pos (by rw [hy2])]
              exact ⟨t, rfl, mt.sx sx (nt_dK ek2)⟩
            · rw [if_neg fun q => hy2 (Sum.inr.inj q)]
              rw [ht] at hy
              obtain ⟨u, u1, u2⟩ := em y ((List.mem_append.mp hy).resolve_right fun q => hy2 (List.mem_singleton.mp q))
              exact ⟨u, u1, (u2.same s8).sx sx (nt_dK ek2)⟩
      · obtain ⟨s2, hL, n, kk, rfl, ek, ekk, em⟩ := e
        rw [List.length_map, List.take_length] at ekk em
        refine ⟨s2, n, kk, rfl, ek, ?_, fun z hz => em z (pm.mem_iff.mpr hz)⟩
        have := congrArg List.length ekk
        rw [List.length_map, List.length_map] at this
        omega
  · simp only [rd, rd2, rd3, rd4, List.getElem?_cons_zero, List.getElem?_cons_succ, Option.some.injEq, exists_eq_left', exists_eq_left, exists_and_left, exists_and_right, List.cons.injEq, V.str.injEq, V.int.injEq, V.bl.injEq, V.ref.injEq, V.ty.injEq, and_true, true_and, List.set_cons_zero, List.set_cons_succ, exists_const, exists_false, reduceCtorEq, ↓reduceIte, exists_eq, exists_eq', and_self, cxK, wipe, List.map_cons, List.map_nil, List.length_cons, List.length_nil, Nat.zero_add, Nat.reduceAdd, Int.cast_ofNat_Int, Int.reduceEq, Int.reduceLE, Int.reduceLT, decide_eq_true_eq, decide_true, decide_false, Bool.true_eq_false, Bool.false_eq_true, Bool.not_true, Bool.not_false]
    refine ⟨_, e1, _, s1 _ _ hd, ?_⟩
    rw [kvL_len, e2, if_neg (by omega)]
    exact hq _ _ _ s1 e1 e3
/-! check_measure -/
def sp_check_measure (K : PySem.W.Frag) : Sp := fun vs H Q E => ∃ v, vs = [v] ∧ MeasAt K H v ∧ Q .non H
abbrev sc_check_measureN : List Str := ["measure"]
theorem sc_check_measure : FnScope sc_check_measureN ["measure"] (defScope (topS 57)) := ⟨rfl, rfl, rfl, by decide +kernel, rfl, by decide +kernel, by decide +kernel⟩
theorem r_check_measure {P : Program} {w : World} {K : PySem.W.Frag} {mg : Str → Option Value} {base : Heap} (T : Tx w K mg) : FnR P w K mg base (L2.CX P w) 1 (He.ga K "check_measure") (sp_check_measure K) := by
  refine mkR T.f_check_measure sc_check_measure (fun _ _ _ _ _ _ us hl => match us, hl with | [_], _ => rfl) (fun vs H Q E h => by obtain ⟨v, rfl, ⟨t, p, rfl, ht, hp⟩, hq⟩ := h; rfl) (fun cdv A outer s H vs Q E hr h => ?_)
  obtain ⟨v, rfl, ⟨t, p, rfl, ht, hp⟩, hq⟩ := h
  refine ⟨_, (pss_cons (ps_if (pt_cmpR op_gt (pe_ix (r := rIxT K) ix_tup (pv 0) (pe_int) (fun _ _ => rfl)) (C8.pe_gc (by rfl) T.i_MAX_DEPTH) (nomark _)) (pss_one ps_never) pss_nil) (pss_one (ps_if (pt_cmpR op_gt (pe_ix (r := rIxT K) ix_tup (pv 0) (pe_int) (fun _ _ => rfl)) (C8.pe_gc (by rfl) T.i_MAX_PUTS) (nomark _)) (pss_one ps_never) pss_nil))), ?_⟩
  refine start_of (σ := [some (.ref t)]) rfl ?_
  simp only [rd, rd2, rd3, rd4, List.getElem?_cons_zero, List.getElem?_cons_succ, Option.some.injEq, exists_eq_left', exists_eq_left, exists_and_left, exists_and_right, List.cons.injEq, V.str.injEq, V.int.injEq, V.bl.injEq, V.ref.injEq, V.ty.injEq, and_true, true_and, List.set_cons_zero, List.set_cons_succ, exists_const, exists_false, reduceCtorEq, ↓reduceIte, exists_eq, exists_eq', and_self, cxK, wipe, List.map_cons, List.map_nil, List.length_cons, List.length_nil, Nat.zero_add, Nat.reduceAdd, Int.cast_ofNat_Int, Int.reduceEq, Int.reduceLE, Int.reduceLT, decide_eq_true_eq, decide_true, decide_false, Bool.true_eq_false, Bool.false_eq_true, Bool.not_true, Bool.not_false]
  refine ⟨_, ht, _, rfl, _, rfl, ?_⟩
  rw [if_neg (by decide)]
  refine ⟨_, ht, _, rfl, _, rfl, ?_⟩
  rw [if_neg (by omega)]
  exact hq
/-! Parts.dimension -/
def sp_Parts_dimension (K : PySem.W.Frag) : Sp := fun vs H Q E => ∃ v d ks bl, vs = [v] ∧ PartsAt K H v d ks bl ∧ Q (.int d) H
abbrev sc_Parts_dimensionN : List Str := ["self"]
theorem sc_Parts_dimension : FnScope sc_Parts_dimensionN ["self"] (defScope (clsS 58 2)) := ⟨rfl, rfl, rfl, by decide +kernel, rfl, by decide +kernel, by decide +kernel⟩
theorem r_Parts_dimension {P : Program} {w : World} {K : PySem.W.Frag} {mg : Str → Option Value} {base : Heap} (T : Tx w K mg) : FnR P w K mg base (L2.CX P w) 1 (He5.wf K (He.ga K "Parts") "property" "dimension") (sp_Parts_dimension K) := by
  refine mkR T.f_Parts_dimension sc_Parts_dimension (fun _ _ _ _ _ _ us hl => match us, hl with | [_], _ => rfl) (fun vs H Q E h => by obtain ⟨v, d, ks, bl, rfl, ⟨a, dx, kd, kn, val, rfl, h1, h2, h3, h4⟩, hq⟩ := h; rfl) (fun cdv A outer s H vs Q E hr h => ?_)
  obtain ⟨v, d, ks, bl, rfl, ⟨a, dx, kd, kn, val, rfl, h1, h2, h3, h4⟩, hq⟩ := h
  refine ⟨_, (pss_one (ps_ret (pe_fd T.c_Parts T.a_Parts_ground (pv 0)))), ?_⟩
  refine start_of (σ := [some (.ref a)]) rfl ?_
  simp only [rd, rd2, rd3, rd4, List.getElem?_cons_zero, List.getElem?_cons_succ, Option.some.injEq, exists_eq_left', exists_eq_left, exists_and_left, exists_and_right, List.cons.injEq, V.str.injEq, V.int.injEq, V.bl.injEq, V.ref.injEq, V.ty.injEq, and_true, true_and, List.set_cons_zero, List.set_cons_succ, exists_const, exists_false, reduceCtorEq, ↓reduceIte, exists_eq, exists_eq', and_self, cxK, wipe, List.map_cons, List.map_nil, List.length_cons, List.length_nil, Nat.zero_add, Nat.reduceAdd, Int.cast_ofNat_Int, Int.reduceEq, Int.reduceLE, Int.reduceLT, decide_eq_true_eq, decide_true, decide_false, Bool.true_eq_false, Bool.false_eq_true, Bool.not_true, Bool.not_false]
  exact ⟨_, _, h1, _, rfl, hq⟩
/-! Parts.names -/
def sp_Parts_names (K : PySem.W.Frag) : Sp := fun vs H Q E => ∃ v d ks bl, vs = [v] ∧ PartsAt K H v d ks bl ∧ ∀ p, H p = none → Q (.ref p) (upd H p (.lst (ks.map V.str)))
abbrev sc_Parts_namesN : List Str := ["self"]
theorem sc_Parts_names : FnScope sc_Parts_namesN ["self"] (defScope (clsS 58 3)) := ⟨rfl, rfl, rfl, by decide +kernel, rfl, by decide +kernel, by decide +kernel⟩
theorem r_Parts_names {P : Program} {w : World} {K : PySem.W.Frag} {mg : Str → Option Value} {base : Heap} (T : Tx w K mg) : FnR P w K mg base (L2.CX P w) 1 (He.ma K (He.ga K "Parts") "names") (sp_Parts_names K) := by
  refine mkR T.f_Parts_names sc_Parts_names (fun _ _ _ _ _ _ us hl => match us, hl with | [_], _ => rfl) (fun vs H Q E h => by obtain ⟨v, d, ks, bl, rfl, ⟨a, dx, kd, kn, val, rfl, h1, h2, h3, h4⟩, hq⟩ := h; rfl) (fun cdv A outer s H vs Q E hr h => ?_)
  obtain ⟨v, d, ks, bl, rfl, ⟨a, dx, kd, kn, val, rfl, h1, h2, h3, h4⟩, hq⟩ := h
  refine ⟨_, (pss_one (ps_ret (pe_callTy (call_listD rfl) (by rfl) T.n_list (by decide +kernel) (pa_cons (pe_fd T.c_Parts T.a_Parts_kept (pv 0)) pa_nil)))), ?_⟩
  refine start_of (σ := [some (.ref a)]) rfl ?_
  simp only [rd, rd2, rd3, rd4, List.getElem?_cons_zero, List.getElem?_cons_succ, Option.some.injEq, exists_eq_left', exists_eq_left, exists_and_left, exists_and_right, List.cons.injEq, V.str.injEq, V.int.injEq, V.bl.injEq, V.ref.injEq, V.ty.injEq, and_true, true_and, List.set_cons_zero, List.set_cons_succ, exists_const, exists_false, reduceCtorEq, ↓reduceIte, exists_eq, exists_eq', and_self, cxK, wipe, List.map_cons, List.map_nil, List.length_cons, List.length_nil, Nat.zero_add, Nat.reduceAdd, Int.cast_ofNat_Int, Int.reduceEq, Int.reduceLE, Int.reduceLT, decide_eq_true_eq, decide_true, decide_false, Bool.true_eq_false, Bool.false_eq_true, Bool.not_true, Bool.not_false]
  refine ⟨_, _, h1, _, rfl, _, rfl, _, .inl h2, fun p hp => ?_⟩
  have := hq p hp
  unfold kvL
  rw [List.map_map]
  exact this
/-! Parts.blocks -/
def sp_Parts_blocks (K : PySem.W.Frag) : Sp := fun vs H Q E => ∃ v d ks bl, vs = [v] ∧ PartsAt K H v d ks bl ∧ ∀ p val, H p = none → BlksAt K H ks val bl → Q (.ref p) (upd H p (.dK (kvL val ks)))
abbrev sc_Parts_blocksN : List Str := ["self"]
theorem sc_Parts_blocks : FnScope sc_Parts_blocksN ["self"] (defScope (clsS 58 4)) := ⟨rfl, rfl, rfl, by decide +kernel, rfl, by decide +kernel, by decide +kernel⟩
theorem r_Parts_blocks {P : Program} {w : World} {K : PySem.W.Frag} {mg : Str → Option Value} {base : Heap} (T : Tx w K mg) : FnR P w K mg base (L2.CX P w) 1 (He.ma K (He.ga K "Parts") "blocks") (sp_Parts_blocks K) := by
  refine mkR T.f_Parts_blocks sc_Parts_blocks (fun _ _ _ _ _ _ us hl => match us, hl with | [_], _ => rfl) (fun vs H Q E h => by obtain ⟨v, d, ks, bl, rfl, ⟨a, dx, kd, kn, val, rfl, h1, h2, h3, h4⟩, hq⟩ := h; rfl) (fun cdv A outer s H vs Q E hr h => ?_)
  obtain ⟨v, d, ks, bl, rfl, ⟨a, dx, kd, kn, val, rfl, h1, h2, h3, h4⟩, hq⟩ := h
  refine ⟨_, (pss_one (ps_ret (pe_callTy call_dictD (by rfl) T.n_dict (by decide +kernel) (pa_cons (pe_fd T.c_Parts T.a_Parts_kept (pv 0)) pa_nil)))), ?_⟩
  refine start_of (σ := [some (.ref a)]) rfl ?_
  simp only [rd, rd2, rd3, rd4, List.getElem?_cons_zero, List.getElem?_cons_succ, Option.some.injEq, exists_eq_left', exists_eq_left, exists_and_left, exists_and_right, List.cons.injEq, V.str.injEq, V.int.injEq, V.bl.injEq, V.ref.injEq, V.ty.injEq, and_true, true_and, List.set_cons_zero, List.set_cons_succ, exists_const, exists_false, reduceCtorEq, ↓reduceIte, exists_eq, exists_eq', and_self, cxK, wipe, List.map_cons, List.map_nil, List.length_cons, List.length_nil, Nat.zero_add, Nat.reduceAdd, Int.cast_ofNat_Int, Int.reduceEq, Int.reduceLE, Int.reduceLT, decide_eq_true_eq, decide_true, decide_false, Bool.true_eq_false, Bool.false_eq_true, Bool.not_true, Bool.not_false]
  exact ⟨_, _, h1, _, rfl, kd, _, rfl, .inl h2, fun p hp => hq p val hp h3⟩
/-! Parts.block -/
def sp_Parts_block (K : PySem.W.Frag) : Sp := fun vs H Q E => ∃ v d ks bl x, vs = [v, .str x] ∧ PartsAt K H v d ks bl ∧ x ∈ ks ∧ ∀ u, BlkAt K H u (bl x) → Q u H
abbrev sc_Parts_blockN : List Str := ["self", "name"]
theorem sc_Parts_block : FnScope sc_Parts_blockN ["self", "name"] (defScope (clsS 58 5)) := ⟨rfl, rfl, rfl, by decide +kernel, rfl, by decide +kernel, by decide +kernel⟩
theorem r_Parts_block {P : Program} {w : World} {K : PySem.W.Frag} {mg : Str → Option Value} {base : Heap} (T : Tx w K mg) : FnR P w K mg base (L2.CX P w) 1 (He.ma K (He.ga K "Parts") "block") (sp_Parts_block K) := by
  refine mkR T.f_Parts_block sc_Parts_block (fun _ _ _ _ _ _ us hl => match us, hl with | [_, _], _ => rfl) (fun vs H Q E h => by obtain ⟨v, d, ks, bl, x, rfl, ⟨a, dx, kd, kn, val, rfl, h1, h2, h3, h4⟩, hx, hq⟩ := h; rfl) (fun cdv A outer s H vs Q E hr h => ?_)
  obtain ⟨v, d, ks, bl, x, rfl, ⟨a, dx, kd, kn, val, rfl, h1, h2, h3, h4⟩, hx, hq⟩ := h
  refine ⟨_, (pss_cons (ps_if (pt_cmp (pc_dnotin (hu_of hr) (pv 1) (pe_fd T.c_Parts T.a_Parts_kept (pv 0)))) (pss_one ps_never) pss_nil) (pss_one (ps_ret (pe_dget (hu_of hr) (pe_fd T.c_Parts T.a_Parts_kept (pv 0)) (pv 1) (fun _ _ => rfl))))), ?_⟩
  refine start_of (σ := [some (.ref a), some (.str x)]) rfl ?_
  simp only [rd, rd2, rd3, rd4, List.getElem?_cons_zero, List.getElem?_cons_succ, Option.some.injEq, exists_eq_left', exists_eq_left, exists_and_left, exists_and_right, List.cons.injEq, V.str.injEq, V.int.injEq, V.bl.injEq, V.ref.injEq, V.ty.injEq, and_true, true_and, List.set_cons_zero, List.set_cons_succ, exists_const, exists_false, reduceCtorEq, ↓reduceIte, exists_eq, exists_eq', and_self, cxK, wipe, List.map_cons, List.map_nil, List.length_cons, List.length_nil, Nat.zero_add, Nat.reduceAdd, Int.cast_ofNat_Int, Int.reduceEq, Int.reduceLE, Int.reduceLT, decide_eq_true_eq, decide_true, decide_false, Bool.true_eq_false, Bool.false_eq_true, Bool.not_true, Bool.not_false]
  refine ⟨_, _, h1, _, rfl, _, rfl, _, dget_in (.inl h2) hx, ?_⟩
  rw [if_neg (by rw [Option.isSome_some]; decide)]
  exact ⟨_, _, h1, _, rfl, _, rfl, _, dget_in (.inl h2) hx, hq _ (h3 x hx)⟩
/-! Parts.check_names -/
def sp_Parts_check_names (K : PySem.W.Frag) : Sp := fun vs H Q E => ∃ x dx fs v b, vs = [.ref x, v] ∧ H x = some (.ins (He.ga K "Parts") dx fs) ∧ BlkAt K H v b ∧ ∀ H', Same H H' → Q .non H'
abbrev sc_Parts_check_namesN : List Str := ["self", "block", "name"]
theorem sc_Parts_check_names : FnScope sc_Parts_check_namesN ["self", "block"] (defScope (clsS 58 7)) := ⟨rfl, rfl, rfl, by decide +kernel, rfl, by decide +kernel, by decide +kernel⟩
theorem r_Parts_check_names {P : Program} {w : World} {K : PySem.W.Frag} {mg : Str → Option Value} {base : Heap} (T : Tx w K mg) : FnR P w K mg base (L2.CX P w) 2 (He.ma K (He.ga K "Parts") "check_names") (sp_Parts_check_names K) := by
  refine mkR T.f_Parts_check_names sc_Parts_check_names (fun _ _ _ _ _ _ us hl => match us, hl with | [_, _], _ => rfl) (fun vs H Q E h => by obtain ⟨x, dx, fs, v, b, rfl, h1, hb, hq⟩ := h; rfl) (fun cdv A outer s H vs Q E hr h => ?_)
  obtain ⟨x, dx, fs, v, b, rfl, h1, hb, hq⟩ := h
  refine ⟨_, (pss_one (ps_for (passes_of rfl) rfl (pi_list (pe_f (r_names_in (P := P) (w := w) (K := K) (base := base) T) T.g_names_in T.f_names_in.keep hr passL (pa_cons (pv 1) pa_nil))) (pg_name (i := 2) sc_Parts_check_names.nd rfl (Or.inl rfl)) (pss_one ps_never))), ?_⟩
  refine start_of (σ := [some (.ref x), some v, none]) rfl ?_
  simp only [rd, rd2, rd3, rd4, List.getElem?_cons_zero, List.getElem?_cons_succ, Option.some.injEq, exists_eq_left', exists_eq_left, exists_and_left, exists_and_right, List.cons.injEq, V.str.injEq, V.int.injEq, V.bl.injEq, V.ref.injEq, V.ty.injEq, and_true, true_and, List.set_cons_zero, List.set_cons_succ, exists_const, exists_false, reduceCtorEq, ↓reduceIte, exists_eq, exists_eq', and_self, cxK, wipe, List.map_cons, List.map_nil, List.length_cons, List.length_nil, Nat.zero_add, Nat.reduceAdd, Int.cast_ofNat_Int, Int.reduceEq, Int.reduceLE, Int.reduceLT, decide_eq_true_eq, decide_true, decide_false, Bool.true_eq_false, Bool.false_eq_true, Bool.not_true, Bool.not_false]
  refine ⟨_, b, rfl, hb, fun H1 l s1 hl _ => ⟨l, rfl, ⟨_, .of hl⟩, ?_⟩⟩
  exact forP (walk_list (xs := [])) rfl (fun H' s2 => .of (s2 _ _ hl)) (fun x _ _ hx => nomatch hx) fun v H' s2 => hq _ (s1.trans s2)
/-! Parts.users -/
def sp_Parts_users (K : PySem.W.Frag) : Sp := fun vs H Q E => ∃ v d ks bl x, vs = [v, .str x] ∧ PartsAt K H v d ks bl ∧ x ∈ ks ∧ ∀ H' p, Same H H' → H' p = some (.lst []) → Q (.ref p) H'
abbrev sc_Parts_usersN : List Str := ["self", "name", "other"]
theorem sc_Parts_users : FnScope sc_Parts_usersN ["self", "name"] (defScope (clsS 58 6)) := ⟨rfl, rfl, rfl, by decide +kernel, rfl, by decide +kernel, by decide +kernel⟩
theorem r_Parts_users {P : Program} {w : World} {K : PySem.W.Frag} {mg : Str → Option Value} {base : Heap} (T : Tx w K mg) : FnR P w K mg base (L2.CX P w) 2 (He.ma K (He.ga K "Parts") "users") (sp_Parts_users K) := by
  refine mkR T.f_Parts_users sc_Parts_users (fun _ _ _ _ _ _ us hl => match us, hl with | [_, _], _ => rfl) (fun vs H Q E h => by obtain ⟨v, d, ks, bl, x, rfl, ⟨a, dx, kd, kn, val, rfl, h1, h2, h3, h4⟩, hx, hq⟩ := h; rfl) (fun cdv A outer s H vs Q E hr h => ?_)
  obtain ⟨v, d, ks, bl, x, rfl, ⟨a, dx, kd, kn, val, rfl, h1, h2, h3, h4⟩, hx, hq⟩ := h
  refine ⟨_, (pss_cons (ps_expr (pe_m (pv 0) (r_Parts_block (P := P) (w := w) (K := K) (base := base) T) T.c_Parts T.t_Parts_block hr passL (pa_cons (pv 1) pa_nil))) (pss_one (ps_ret (pe_lock (pe_lc (own := [("other", 2)]) (g := gName 2) rfl sc_Parts_users.nd (pi_keys (pe_fd T.c_Parts T.a_Parts_kept (pv 0))) (blkOk_by (N := sc_Parts_usersN) (sc := (defScope (clsS 58 6))) (by decide +kernel)) (fun _ _ _ _ _ => (pg_name (i := 2) sc_Parts_users.nd rfl (Or.inl rfl))) (fun _ _ _ _ _ => (pts_one (pt_cmpR (r := rIn K false) op_in_seq (pv 1) (pe_f (r_names_in (P := P) (w := w) (K := K) (base := base) T) T.g_names_in T.f_names_in.keep hr passL (pa_cons (pe_dget (hu_of hr) (pe_fd T.c_Parts T.a_Parts_kept (pv 0)) (pv 2) (fun _ _ => rfl)) pa_nil)) (by rfl)))) (fun _ _ _ _ _ => (pv 2))))))), ?_⟩
  refine start_of (σ := [some (.ref a), some (.str x), none]) rfl ?_
  simp only [rd, rd2, rd3, rd4, List.getElem?_cons_zero, List.getElem?_cons_succ, Option.some.injEq, exists_eq_left', exists_eq_left, exists_and_left, exists_and_right, List.cons.injEq, V.str.injEq, V.int.injEq, V.bl.injEq, V.ref.injEq, V.ty.injEq, and_true, true_and, List.set_cons_zero, List.set_cons_succ, exists_const, exists_false, reduceCtorEq, ↓reduceIte, exists_eq, exists_eq', and_self, cxK, wipe, List.map_cons, List.map_nil, List.length_cons, List.length_nil, Nat.zero_add, Nat.reduceAdd, Int.cast_ofNat_Int, Int.reduceEq, Int.reduceLE, Int.reduceLT, decide_eq_true_eq, decide_true, decide_false, Bool.true_eq_false, Bool.false_eq_true, Bool.not_true, Bool.not_false]
  refine ⟨_, _, h1, rfl, _, d, ks, bl, x, rfl, ⟨a, dx, kd, kn, val, rfl, h1, h2, h3, h4⟩, hx, fun u _ => ?_⟩
  have h1' : ∀ od : Obj, upd H kd (.frz od (.dK (kvL val ks))) a = some (.ins (He.ga K "Parts") dx [("ground", .int d), ("kept", .ref kd), ("known", kn)]) := fun od => by
    rw [upd_ne (ne_of h1 h2 (by intro z; cases z))]; exact h1
  refine lockEN h2 (fun od R hR => ⟨_, rfl, a, dx, _, _, rfl, h1' od, rfl, hR⟩) fun od => ?_
  refine lcG walk_kn (fun _ => false) (fun v => v) ?_ (fun _ => rfl) (fun H' s1 => s1 _ _ upd_same) (fun x H' R hx s1 hR => ?_) (fun _ _ _ _ h => absurd h Bool.false_ne_true) fun D H' s1 e => ?_
  · rw [List.length_map]; have := h4.1.2.2.1; omega
  · obtain ⟨z, hz, rfl⟩ := List.mem_map.mp hx
    simp only [rd, rd2, rd3, rd4, List.getElem?_cons_zero, List.getElem?_cons_succ, Option.some.injEq, exists_eq_left', exists_eq_left, exists_and_left, exists_and_right, List.cons.injEq, V.str.injEq, V.int.injEq, V.bl.injEq, V.ref.injEq, V.ty.injEq, and_true, true_and, List.set_cons_zero, List.set_cons_succ, exists_const, exists_false, reduceCtorEq, ↓reduceIte, exists_eq, exists_eq', and_self, cxK, wipe, List.map_cons, List.map_nil, List.length_cons, List.length_nil, Nat.zero_add, Nat.reduceAdd, Int.cast_ofNat_Int, Int.reduceEq, Int.reduceLE, Int.reduceLT, decide_eq_true_eq, decide_true, decide_false, Bool.true_eq_false, Bool.false_eq_true, Bool.not_true, Bool.not_false]
    refine ⟨_, _, s1 _ _ (h1' od), _, rfl, _, rfl, _, dget_in (.inr ⟨od, s1 _ _ upd_same⟩) hz, _, bl z, rfl, ((h3 z hz).sx SX.upd (nt_dK h2)).same s1, fun H2 l s2 hl _ => ?_⟩
    simp only [rd, rd2, rd3, rd4, List.getElem?_cons_zero, List.getElem?_cons_succ, Option.some.injEq, exists_eq_left', exists_eq_left, exists_and_left, exists_and_right, List.cons.injEq, V.str.injEq, V.int.injEq, V.bl.injEq, V.ref.injEq, V.ty.injEq, and_true, true_and, List.set_cons_zero, List.set_cons_succ, exists_const, exists_false, reduceCtorEq, ↓reduceIte, exists_eq, exists_eq', and_self, cxK, wipe, List.map_cons, List.map_nil, List.length_cons, List.length_nil, Nat.zero_add, Nat.reduceAdd, Int.cast_ofNat_Int, Int.reduceEq, Int.reduceLE, Int.reduceLT, decide_eq_true_eq, decide_true, decide_false, Bool.true_eq_false, Bool.false_eq_true, Bool.not_true, Bool.not_false]
    exact ⟨_, .inl (.of hl), rfl, rfl, hR _ s2⟩
  · rw [List.filter_eq_nil_iff.mpr (fun _ _ => Bool.false_ne_true)] at e
    have hD : D ≠ kd := fun q => by rw [q, s1 _ _ upd_same] at e; cases e
    exact ⟨s1 _ _ upd_same, hq _ _ (same_unlock h2 s1) (by rw [upd_ne hD]; exact e)⟩
/-! Parts.measure -/
def sp_Parts_measure (K : PySem.W.Frag) : Sp := fun vs H Q E => ∃ v d ks bl u b, vs = [v, u] ∧ PartsAt K H v d ks bl ∧ BlkAt K H u b ∧ ∀ H' t, Same H H' → MeasAt K H' t → Q t H'
abbrev sc_Parts_measureN : List Str := ["self", "block"]
theorem sc_Parts_measure : FnScope sc_Parts_measureN ["self", "block"] (defScope (clsS 58 8)) := ⟨rfl, rfl, rfl, by decide +kernel, rfl, by decide +kernel, by decide +kernel⟩
theorem r_Parts_measure {P : Program} {w : World} {K : PySem.W.Frag} {mg : Str → Option Value} {base : Heap} (T : Tx w K mg) : FnR P w K mg base (L2.CX P w) 6 (He.ma K (He.ga K "Parts") "measure") (sp_Parts_measure K) := by
  refine mkR T.f_Parts_measure sc_Parts_measure (fun _ _ _ _ _ _ us hl => match us, hl with | [_, _], _ => rfl) (fun vs H Q E h => by obtain ⟨v, d, ks, bl, u, b, rfl, ⟨a, dx, kd, kn, val, rfl, h1, h2, h3, h4⟩, hb, hq⟩ := h; rfl) (fun cdv A outer s H vs Q E hr h => ?_)
  obtain ⟨v, d, ks, bl, u, b, rfl, ⟨a, dx, kd, kn, val, rfl, h1, h2, h3, h4⟩, hb, hq⟩ := h
  refine ⟨_, (pss_cons (ps_expr (pe_f (r_check_block (P := P) (w := w) (K := K) (base := base) T) T.g_check_block T.f_check_block.keep hr passL (pa_cons (pv 1) (pa_cons (pe_fd T.c_Parts T.a_Parts_ground (pv 0)) pa_nil)))) (pss_cons (ps_expr (pe_m (pv 0) (r_Parts_check_names (P := P) (w := w) (K := K) (base := base) T) T.c_Parts T.t_Parts_check_names hr passL (pa_cons (pv 1) pa_nil))) (pss_one (ps_ret (pe_f (r_measured (P := P) (w := w) (K := K) (base := base) T) T.g_measured T.f_measured.keep hr passL (pa_cons (pv 1) (pa_cons (pe_fd T.c_Parts T.a_Parts_known (pv 0)) pa_nil))))))), ?_⟩
  refine start_of (σ := [some (.ref a), some u]) rfl ?_
  simp only [rd, rd2, rd3, rd4, List.getElem?_cons_zero, List.getElem?_cons_succ, Option.some.injEq, exists_eq_left', exists_eq_left, exists_and_left, exists_and_right, List.cons.injEq, V.str.injEq, V.int.injEq, V.bl.injEq, V.ref.injEq, V.ty.injEq, and_true, true_and, List.set_cons_zero, List.set_cons_succ, exists_const, exists_false, reduceCtorEq, ↓reduceIte, exists_eq, exists_eq', and_self, cxK, wipe, List.map_cons, List.map_nil, List.length_cons, List.length_nil, Nat.zero_add, Nat.reduceAdd, Int.cast_ofNat_Int, Int.reduceEq, Int.reduceLE, Int.reduceLT, decide_eq_true_eq, decide_true, decide_false, Bool.true_eq_false, Bool.false_eq_true, Bool.not_true, Bool.not_false]
  refine ⟨_, _, h1, _, rfl, _, b, _, rfl, hb, fun H1 s1 => ⟨_, _, s1 _ _ h1, rfl, _, _, _, _, b, rfl, s1 _ _ h1, hb.same s1, fun H2 s2 => ?_⟩⟩
  have s3 := s1.trans s2
  exact ⟨_, _, s3 _ _ h1, _, rfl, _, b, _, rfl, hb.same s3, fun H3 t s4 ht => hq _ _ (s3.trans s4) ht⟩
/-! Parts.check -/
def sp_Parts_check (K : PySem.W.Frag) : Sp := fun vs H Q E => ∃ v d ks bl u b, vs = [v, u] ∧ PartsAt K H v d ks bl ∧ BlkAt K H u b ∧ ∀ H', Same H H' → Q .non H'
abbrev sc_Parts_checkN : List Str := ["self", "block"]
theorem sc_Parts_check : FnScope sc_Parts_checkN ["self", "block"] (defScope (clsS 58 9)) := ⟨rfl, rfl, rfl, by decide +kernel, rfl, by decide +kernel, by decide +kernel⟩
theorem r_Parts_check {P : Program} {w : World} {K : PySem.W.Frag} {mg : Str → Option Value} {base : Heap} (T : Tx w K mg) : FnR P w K mg base (L2.CX P w) 7 (He.ma K (He.ga K "Parts") "check") (sp_Parts_check K) := by
  refine mkR T.f_Parts_check sc_Parts_check (fun _ _ _ _ _ _ us hl => match us, hl with | [_, _], _ => rfl) (fun vs H Q E h => by obtain ⟨v, d, ks, bl, u, b, rfl, hp, hb, hq⟩ := h; rfl) (fun cdv A outer s H vs Q E hr h => ?_)
  obtain ⟨v, d, ks, bl, u, b, rfl, hp, hb, hq⟩ := h
  obtain ⟨a, dx, kd, kn, val, rfl, h1, h2, h3, h4⟩ := id hp
  refine ⟨_, (pss_one (ps_expr (pe_f (r_check_measure (P := P) (w := w) (K := K) (base := base) T) T.g_check_measure T.f_check_measure.keep hr passL (pa_cons (pe_m (pv 0) (r_Parts_measure (P := P) (w := w) (K := K) (base := base) T) T.c_Parts T.t_Parts_measure hr passL (pa_cons (pv 1) pa_nil)) pa_nil)))), ?_⟩
  refine start_of (σ := [some (.ref a), some u]) rfl ?_
  simp only [rd, rd2, rd3, rd4, List.getElem?_cons_zero, List.getElem?_cons_succ, Option.some.injEq, exists_eq_left', exists_eq_left, exists_and_left, exists_and_right, List.cons.injEq, V.str.injEq, V.int.injEq, V.bl.injEq, V.ref.injEq, V.ty.injEq, and_true, true_and, List.set_cons_zero, List.set_cons_succ, exists_const, exists_false, reduceCtorEq, ↓reduceIte, exists_eq, exists_eq', and_self, cxK, wipe, List.map_cons, List.map_nil, List.length_cons, List.length_nil, Nat.zero_add, Nat.reduceAdd, Int.cast_ofNat_Int, Int.reduceEq, Int.reduceLE, Int.reduceLT, decide_eq_true_eq, decide_true, decide_false, Bool.true_eq_false, Bool.false_eq_true, Bool.not_true, Bool.not_false]
  refine ⟨_, _, h1, rfl, _, d, ks, bl, _, b, rfl, hp, hb, fun H1 t s1 ht => ⟨_, rfl, ht, hq _ s1⟩⟩
end Sf

/-! ### Parts(..) -/
namespace Sf
open PySem PySem.Spec PyProof.Rows L2
theorem rd_frz {H : Hp} {a kd : Addr} {od : Obj} {u w : HO} (h : H kd = some u) (r : H a = some w) : Rd (upd H kd (.frz od u)) a w := by
  by_cases e : a = kd
  · subst e
    rw [h] at r
    cases r
    exact .inr ⟨od, upd_same⟩
  · exact .inl (by rw [upd_ne e]; exact r)
/-! Parts.__init__ -/
def sp_Parts__init_ (K : PySem.W.Frag) : Sp := fun vs H Q E => ∃ x dx d bd l val bl, vs = [.ref x, .int d, .ref bd] ∧ H x = some (.ins (He.ga K "Parts") dx []) ∧ H bd = some (.dK (kvL val l)) ∧ BlksAt K H l val bl ∧ l.Nodup ∧ l.length ≤ 12 ∧ (∀ z ∈ l, Nm z = true) ∧ 1 ≤ d ∧ d ≤ 3 ∧ ∀ H', SX x H H' → PartsAt K H' (.ref x) d (srt l) bl → Q .non H'
abbrev sc_Parts__init_N : List Str := ["self", "dimension", "blocks", "name"]
theorem sc_Parts__init_ : FnScope sc_Parts__init_N ["self", "dimension", "blocks"] (defScope (clsS 58 0)) := ⟨rfl, rfl, rfl, by decide +kernel, rfl, by decide +kernel, by decide +kernel⟩
theorem r_Parts__init_ {P : Program} {w : World} {K : PySem.W.Frag} {mg : Str → Option Value} {base : Heap} (T : Tx w K mg) : FnR P w K mg base (L2.CX P w) 6 (He.ma K (He.ga K "Parts") "__init__") (sp_Parts__init_ K) := by
  refine mkR T.f_Parts__init_ sc_Parts__init_ (fun _ _ _ _ _ _ us hl => match us, hl with | [_, _, _], _ => rfl) (fun vs H Q E h => by obtain ⟨x, dx, d, bd, l, val, bl, rfl, hx, hbd, hb, nd, hl, hn, d1, d3, hq⟩ := h; rfl) (fun cdv A outer s H vs Q E hr h => ?_)
  obtain ⟨x, dx, d, bd, l, val, bl, rfl, hx, hbd, hb, nd, hl, hn, d1, d3, hq⟩ := h
  refine ⟨_, (pss_cons (ps_if (pt_not (pt_chain op_le op_le (pe_int) (pv 1) (C8.pe_gc (by rfl) T.i_MAX_DIMENSION))) (pss_one ps_never) pss_nil) (pss_cons (ps_if (pt_cmpR op_gt (pe_callB call_lenD (by rfl) T.n_len boot_len (pa_cons (pv 2) pa_nil)) (C8.pe_gc (by rfl) T.i_MAX_PARTS) (nomark _)) (pss_one ps_never) pss_nil) (pss_cons (ps_for (passes_of rfl) rfl (pi_list (pe_callB (call_sortedD rfl) (by rfl) T.n_sorted (by decide +kernel) (pa_cons (pv 2) pa_nil))) (pg_name (i := 3) sc_Parts__init_.nd rfl (Or.inl rfl)) (pss_cons (ps_if (pt_not (pt_val (pe_f (r_is_name (P := P) (w := w) (K := K) (base := base) T) T.g_is_name T.f_is_name.keep hr passL (pa_cons (pv 3) pa_nil)))) (pss_one ps_never) pss_nil) (pss_one (ps_expr (pe_f (r_check_block (P := P) (w := w) (K := K) (base := base) T) T.g_check_block T.f_check_block.keep hr passL (pa_cons (pe_dget (hu_of hr) (pv 2) (pv 3) (fun _ _ => rfl)) (pa_cons (pv 1) pa_nil))))))) (pss_cons (ps_fd T.c_Parts T.a_Parts_ground (pv 0) (pv 1)) (pss_cons (ps_fd T.c_Parts T.a_Parts_kept (pv 0) (pe_dc (own := [("name", 3)]) (g := gName 3) (tt := tYes) rfl sc_Parts__init_.nd (pi_list (pe_callB (call_sortedD rfl) (by rfl) T.n_sorted (by decide +kernel) (pa_cons (pv 2) pa_nil))) (blkOk_by (N := sc_Parts__init_N) (sc := (defScope (clsS 58 0))) (by decide +kernel)) (fun _ _ _ _ _ => (pg_name (i := 3) sc_Parts__init_.nd rfl (Or.inl rfl))) (fun _ _ _ _ _ => pts_nil) (fun _ _ _ _ _ => (pv 3)) (fun _ _ _ _ _ => (pe_dget (hu_of hr) (pv 2) (pv 3) (fun _ _ => rfl))))) (pss_cons (ps_lock (ps_for (passes_of rfl) rfl (pi_keys (pe_fd T.c_Parts T.a_Parts_kept (pv 0))) (pg_name (i := 3) sc_Parts__init_.nd rfl (Or.inl rfl)) (pss_one (ps_expr (pe_m (pv 0) (r_Parts_check_names (P := P) (w := w) (K := K) (base := base) T) T.c_Parts T.t_Parts_check_names hr passL (pa_cons (pe_dget (hu_of hr) (pe_fd T.c_Parts T.a_Parts_kept (pv 0)) (pv 3) (fun _ _ => rfl)) pa_nil)))))) (pss_cons (ps_lock (ps_for (passes_of rfl) rfl (pi_keys (pe_fd T.c_Parts T.a_Parts_kept (pv 0))) (pg_name (i := 3) sc_Parts__init_.nd rfl (Or.inl rfl)) (pss_one (ps_if (pt_val (pe_f (r_is_circular (P := P) (w := w) (K := K) (base := base) T) T.g_is_circular T.f_is_circular.keep hr passL (pa_cons (pe_fd T.c_Parts T.a_Parts_kept (pv 0)) (pa_cons (pv 3) pa_nil)))) (pss_one ps_never) pss_nil)))) (pss_cons (ps_fd T.c_Parts T.a_Parts_known (pv 0) (pe_f (r_measures (P := P) (w := w) (K := K) (base := base) T) T.g_measures T.f_measures.keep hr passL (pa_cons (pe_fd T.c_Parts T.a_Parts_kept (pv 0)) pa_nil))) (pss_one (ps_lock (ps_for (passes_of rfl) rfl (pi_keys (pe_fd T.c_Parts T.a_Parts_kept (pv 0))) (pg_name (i := 3) sc_Parts__init_.nd rfl (Or.inl rfl)) (pss_one (ps_expr (pe_f (r_check_measure (P := P) (w := w) (K := K) (base := base) T) T.g_check_measure T.f_check_measure.keep hr passL (pa_cons (pe_dget (hu_of hr) (pe_fd T.c_Parts T.a_Parts_known (pv 0)) (pv 3) (fun _ _ => rfl)) pa_nil))))))))))))))), ?_⟩
  refine start_of (σ := [some (.ref x), some (.int d), some (.ref bd), none]) rfl ?_
  simp only [rd, rd2, rd3, rd4, List.getElem?_cons_zero, List.getElem?_cons_succ, Option.some.injEq, exists_eq_left', exists_eq_left, exists_and_left, exists_and_right, List.cons.injEq, V.str.injEq, V.int.injEq, V.bl.injEq, V.ref.injEq, V.ty.injEq, and_true, true_and, List.set_cons_zero, List.set_cons_succ, exists_const, exists_false, reduceCtorEq, ↓reduceIte, exists_eq, exists_eq', and_self, cxK, wipe, List.map_cons, List.map_nil, List.length_cons, List.length_nil, Nat.zero_add, Nat.reduceAdd, Int.cast_ofNat_Int, Int.reduceEq, Int.reduceLE, Int.reduceLT, decide_eq_true_eq, decide_true, decide_false, Bool.true_eq_false, Bool.false_eq_true, Bool.not_true, Bool.not_false]
  rw [if_pos d1, if_neg (by rw [decide_eq_true d3]; decide)]
  refine ⟨_, hbd, ?_⟩
  rw [kvL_len, if_neg (by omega)]
  refine ⟨_, .inl hbd, l, kvL_keys val l, by omega, fun ys p pm st hp => ⟨⟨_, .of upd_same⟩, ?_⟩⟩
  obtain rfl := srt_of pm st
  have mem : ∀ z ∈ srt l, z ∈ l := fun z hz => pm.mem_iff.mp hz
  have ndy : (srt l).Nodup := pm.nodup_iff.mpr nd
  have hly : (srt l).length = l.length := pm.length_eq
  have s0 := same_upd (o := .lst ((srt l).map V.str)) hp
  refine forP (walk_list (xs := (srt l).map V.str)) rfl (fun H' s1 => .of (s1 _ _ upd_same)) (fun v H1 N hv s1 hN => ?_) fun v H1 s1 => ?_
  · obtain ⟨z, hz, rfl⟩ := List.mem_map.mp hv
    have hz2 := mem z hz
    simp only [rd, rd2, rd3, rd4, List.getElem?_cons_zero, List.getElem?_cons_succ, Option.some.injEq, exists_eq_left', exists_eq_left, exists_and_left, exists_and_right, List.cons.injEq, V.str.injEq, V.int.injEq, V.bl.injEq, V.ref.injEq, V.ty.injEq, and_true, true_and, List.set_cons_zero, List.set_cons_succ, exists_const, exists_false, reduceCtorEq, ↓reduceIte, exists_eq, exists_eq', and_self, cxK, wipe, List.map_cons, List.map_nil, List.length_cons, List.length_nil, Nat.zero_add, Nat.reduceAdd, Int.cast_ofNat_Int, Int.reduceEq, Int.reduceLE, Int.reduceLT, decide_eq_true_eq, decide_true, decide_false, Bool.true_eq_false, Bool.false_eq_true, Bool.not_true, Bool.not_false]
    refine ⟨z, rfl, hn z hz2, fun H2 s2 => ⟨true, rfl, ?_⟩⟩
    rw [if_neg (by decide)]
    have s3 := s1.trans s2
    have s4 := s0.trans s3
    exact ⟨val z, dget_in (.inl (s4 _ _ hbd)) hz2, _, bl z, _, rfl, (hb z hz2).same s4, fun H3 s5 => hN _ (s2.trans s5)⟩
  · have s2 := s0.trans s1
    have hx1 := s2 _ _ hx
    have bx : bd ≠ x := ne_of hbd hx (by intro z; cases z)
    simp only [rd, rd2, rd3, rd4, List.getElem?_cons_zero, List.getElem?_cons_succ, Option.some.injEq, exists_eq_left', exists_eq_left, exists_and_left, exists_and_right, List.cons.injEq, V.str.injEq, V.int.injEq, V.bl.injEq, V.ref.injEq, V.ty.injEq, and_true, true_and, List.set_cons_zero, List.set_cons_succ, exists_const, exists_false, reduceCtorEq, ↓reduceIte, exists_eq, exists_eq', and_self, cxK, wipe, List.map_cons, List.map_nil, List.length_cons, List.length_nil, Nat.zero_add, Nat.reduceAdd, Int.cast_ofNat_Int, Int.reduceEq, Int.reduceLE, Int.reduceLT, decide_eq_true_eq, decide_true, decide_false, Bool.true_eq_false, Bool.false_eq_true, Bool.not_true, Bool.not_false]
    refine ⟨_, _, hx1, by decide, _, .inl (by rw [upd_ne bx]; exact s2 _ _ hbd), l, kvL_keys val l, by omega, fun ys2 p2 pm2 st2 hp2 => ⟨⟨_, .of upd_same⟩, ?_⟩⟩
    obtain rfl := srt_of pm2 st2
    have gbd : upd (upd H1 x (.ins (He.ga K "Parts") dx (putF "ground" (.int d) []))) p2 (.lst ((srt l).map V.str)) bd = some (.dK (kvL val l)) := same_upd hp2 _ _ (by rw [upd_ne bx]; exact s2 _ _ hbd)
    refine dcG (walk_list (xs := (srt l).map V.str)) val (by omega) ndy (fun _ => rfl) (fun H' s => .of (s _ _ upd_same)) (fun z H' R hz s hR => by simp only [rd, rd2, rd3, rd4, List.getElem?_cons_zero, List.getElem?_cons_succ, Option.some.injEq, exists_eq_left', exists_eq_left, exists_and_left, exists_and_right, List.cons.injEq, V.str.injEq, V.int.injEq, V.bl.injEq, V.ref.injEq, V.ty.injEq, and_true, true_and, List.set_cons_zero, List.set_cons_succ, exists_const, exists_false, reduceCtorEq, ↓reduceIte, exists_eq, exists_eq', and_self, cxK, wipe, List.map_cons, List.map_nil, List.length_cons, List.length_nil, Nat.zero_add, Nat.reduceAdd, Int.cast_ofNat_Int, Int.reduceEq, Int.reduceLE, Int.reduceLT, decide_eq_true_eq, decide_true, decide_false, Bool.true_eq_false, Bool.false_eq_true, Bool.not_true, Bool.not_false]; exact hR) (fun z H' R hz s hR => by simp only [rd, rd2, rd3, rd4, List.getElem?_cons_zero, List.getElem?_cons_succ, Option.some.injEq, exists_eq_left', exists_eq_left, exists_and_left, exists_and_right, List.cons.injEq, V.str.injEq, V.int.injEq, V.bl.injEq, V.ref.injEq, V.ty.injEq, and_true, true_and, List.set_cons_zero, List.set_cons_succ, exists_const, exists_false, reduceCtorEq, ↓reduceIte, exists_eq, exists_eq', and_self, cxK, wipe, List.map_cons, List.map_nil, List.length_cons, List.length_nil, Nat.zero_add, Nat.reduceAdd, Int.cast_ofNat_Int, Int.reduceEq, Int.reduceLE, Int.reduceLT, decide_eq_true_eq, decide_true, decide_false, Bool.true_eq_false, Bool.false_eq_true, Bool.not_true, Bool.not_false]; exact ⟨_, dget_in (.inl (s _ _ gbd)) (mem z hz), hR⟩) fun kd H3 hkd s3 e3 => ?_
    have hx3 : H3 x = some (.ins (He.ga K "Parts") dx [("ground", .int d)]) := s3 _ _ (same_upd hp2 _ _ upd_same)
    refine ⟨_, _, hx3, by simp, ?_⟩
    have kx : kd ≠ x := ne_of e3 hx3 (by intro z; cases z)
    obtain ⟨G2, hG2⟩ : ∃ G2, G2 = upd H3 x (.ins (He.ga K "Parts") dx (putF "kept" (.ref kd) [("ground", .int d)])) := ⟨_, rfl⟩
    rw [← hG2]
    have sx2 : SX x H G2 := by
      rw [hG2]
      exact (SX.of s2).trans (SX.upd.trans ((SX.of ((same_upd hp2).trans s3)).trans SX.upd))
    have hx2 : G2 x = some (.ins (He.ga K "Parts") dx [("ground", .int d), ("kept", .ref kd)]) := by rw [hG2, upd_same] <;> rfl
    have hk2 : G2 kd = some (.dK (kvL val (srt l))) := by rw [hG2, upd_ne kx]; exact e3
    have hb2 : BlksAt K G2 (srt l) val bl := fun z hz => (hb z (mem z hz)).sx sx2 (nt_ins hx)
    clear hG2
    have lk : ∀ (od : Obj), upd G2 kd (.frz od (.dK (kvL val (srt l)))) x = some (.ins (He.ga K "Parts") dx [("ground", .int d), ("kept", .ref kd)]) := fun od => by rw [upd_ne kx.symm]; exact hx2
    refine lockN (v0 := v) rfl hk2 (fun od R hR => ⟨_, rfl, x, dx, _, _, rfl, lk od, rfl, hR⟩) (fun od z H' E hz s hE => ?_) fun v2 H4 s4 => ?_
    · simp only [rd, rd2, rd3, rd4, List.getElem?_cons_zero, List.getElem?_cons_succ, Option.some.injEq, exists_eq_left', exists_eq_left, exists_and_left, exists_and_right, List.cons.injEq, V.str.injEq, V.int.injEq, V.bl.injEq, V.ref.injEq, V.ty.injEq, and_true, true_and, List.set_cons_zero, List.set_cons_succ, exists_const, exists_false, reduceCtorEq, ↓reduceIte, exists_eq, exists_eq', and_self, cxK, wipe, List.map_cons, List.map_nil, List.length_cons, List.length_nil, Nat.zero_add, Nat.reduceAdd, Int.cast_ofNat_Int, Int.reduceEq, Int.reduceLE, Int.reduceLT, decide_eq_true_eq, decide_true, decide_false, Bool.true_eq_false, Bool.false_eq_true, Bool.not_true, Bool.not_false]
      have hb3 := ((hb2 z hz).sx SX.upd (nt_dK hk2)).same s
      have hx' := s _ _ (lk od)
      exact ⟨_, _, hx', rfl, _, _, hx', _, rfl, _, rfl, _, dget_in (.inr ⟨od, s _ _ upd_same⟩) hz, _, _, _, _, bl z, rfl, hx', hb3, fun H5 s5 => hE _ s5⟩
    · have lk4 : ∀ (od : Obj), upd H4 kd (.frz od (.dK (kvL val (srt l)))) x = some (.ins (He.ga K "Parts") dx [("ground", .int d), ("kept", .ref kd)]) := fun od => by rw [upd_ne kx.symm]; exact s4 _ _ hx2
      refine lockN (v0 := v2) rfl (s4 _ _ hk2) (fun od R hR => ⟨_, rfl, x, dx, _, _, rfl, lk4 od, rfl, hR⟩) (fun od z H' E hz s hE => ?_) fun v3 H5 s5 => ?_
      · simp only [rd, rd2, rd3, rd4, List.getElem?_cons_zero, List.getElem?_cons_succ, Option.some.injEq, exists_eq_left', exists_eq_left, exists_and_left, exists_and_right, List.cons.injEq, V.str.injEq, V.int.injEq, V.bl.injEq, V.ref.injEq, V.ty.injEq, and_true, true_and, List.set_cons_zero, List.set_cons_succ, exists_const, exists_false, reduceCtorEq, ↓reduceIte, exists_eq, exists_eq', and_self, cxK, wipe, List.map_cons, List.map_nil, List.length_cons, List.length_nil, Nat.zero_add, Nat.reduceAdd, Int.cast_ofNat_Int, Int.reduceEq, Int.reduceLE, Int.reduceLT, decide_eq_true_eq, decide_true, decide_false, Bool.true_eq_false, Bool.false_eq_true, Bool.not_true, Bool.not_false]
        have hb3 := (((hb2 z hz).same s4).sx SX.upd (nt_dK (s4 _ _ hk2))).same s
        have hx' := s _ _ (lk4 od)
        refine ⟨_, _, hx', _, rfl, kd, srt l, val, bl z, z, rfl, .inr ⟨od, s _ _ upd_same⟩, hz, hb3, fun H6 s6 => ⟨false, rfl, ?_⟩⟩
        rw [if_neg Bool.false_ne_true]
        exact hE _ s6
      · have s6 := s4.trans s5
        simp only [rd, rd2, rd3, rd4, List.getElem?_cons_zero, List.getElem?_cons_succ, Option.some.injEq, exists_eq_left', exists_eq_left, exists_and_left, exists_and_right, List.cons.injEq, V.str.injEq, V.int.injEq, V.bl.injEq, V.ref.injEq, V.ty.injEq, and_true, true_and, List.set_cons_zero, List.set_cons_succ, exists_const, exists_false, reduceCtorEq, ↓reduceIte, exists_eq, exists_eq', and_self, cxK, wipe, List.map_cons, List.map_nil, List.length_cons, List.length_nil, Nat.zero_add, Nat.reduceAdd, Int.cast_ofNat_Int, Int.reduceEq, Int.reduceLE, Int.reduceLT, decide_eq_true_eq, decide_true, decide_false, Bool.true_eq_false, Bool.false_eq_true, Bool.not_true, Bool.not_false]
        refine ⟨_, _, s6 _ _ hx2, _, rfl, kd, srt l, val, bl, rfl, s6 _ _ hk2, ndy, by omega, fun z hz => (hb2 z hz).same s6, fun H6 kn kk s7 hkn hm => ?_⟩
        have s8 := s6.trans s7
        refine ⟨_, _, s8 _ _ hx2, by simp, ?_⟩
        obtain ⟨G3, hG3⟩ : ∃ G3, G3 = upd H6 x (.ins (He.ga K "Parts") dx (putF "known" (.ref kn) [("ground", .int d), ("kept", .ref kd)])) := ⟨_, rfl⟩
        rw [← hG3]
        have sx3 : SX x G2 G3 := by rw [hG3]; exact (SX.of s8).trans SX.upd
        have hx3' : G3 x = some (.ins (He.ga K "Parts") dx [("ground", .int d), ("kept", .ref kd), ("known", .ref kn)]) := by rw [hG3, upd_same] <;> rfl
        have hk3 : G3 kd = some (.dK (kvL val (srt l))) := sx3 _ _ hk2 kx
        have nx : kn ≠ x := ne_of hkn (s8 _ _ hx2) (by intro z; cases z)
        have hn3 : G3 kn = some (.dK kk) := by rw [hG3, upd_ne nx]; exact hkn
        have hm3 : ∀ z ∈ srt l, ∃ t, valV kk (Sum.inr z) = some t ∧ MeasAt K G3 t := fun z hz => by
          obtain ⟨t, h1, h2⟩ := hm z hz
          exact ⟨t, h1, h2.sx (by rw [hG3]; exact SX.upd) (nt_ins (s8 _ _ hx2))⟩
        have hb3 : BlksAt K G3 (srt l) val bl := fun z hz => (hb2 z hz).sx sx3 (nt_ins hx2)
        clear hG3
        have lk5 : ∀ (od : Obj), upd G3 kd (.frz od (.dK (kvL val (srt l)))) x = some (.ins (He.ga K "Parts") dx [("ground", .int d), ("kept", .ref kd), ("known", .ref kn)]) := fun od => by rw [upd_ne kx.symm]; exact hx3'
        refine lockN (v0 := v3) rfl hk3 (fun od R hR => ⟨_, rfl, x, dx, _, _, rfl, lk5 od, rfl, hR⟩) (fun od z H' E hz s hE => ?_) fun v4 H7 s9 => ?_
        · simp only [rd, rd2, rd3, rd4, List.getElem?_cons_zero, List.getElem?_cons_succ, Option.some.injEq, exists_eq_left', exists_eq_left, exists_and_left, exists_and_right, List.cons.injEq, V.str.injEq, V.int.injEq, V.bl.injEq, V.ref.injEq, V.ty.injEq, and_true, true_and, List.set_cons_zero, List.set_cons_succ, exists_const, exists_false, reduceCtorEq, ↓reduceIte, exists_eq, exists_eq', and_self, cxK, wipe, List.map_cons, List.map_nil, List.length_cons, List.length_nil, Nat.zero_add, Nat.reduceAdd, Int.cast_ofNat_Int, Int.reduceEq, Int.reduceLE, Int.reduceLT, decide_eq_true_eq, decide_true, decide_false, Bool.true_eq_false, Bool.false_eq_true, Bool.not_true, Bool.not_false]
          obtain ⟨t, h1, h2⟩ := hm3 z hz
          exact ⟨_, _, s _ _ (lk5 od), _, rfl, _, rfl, t, .inl ⟨kk, Sum.inr z, same_rd s (rd_frz hk3 hn3), rfl, h1.symm⟩, _, rfl, (h2.sx SX.upd (nt_dK hk3)).same s, hE _ (Same.refl _)⟩
        · refine hq _ (sx2.trans (sx3.trans (SX.of s9))) ⟨x, dx, kd, .ref kn, val, rfl, s9 _ _ hx3', s9 _ _ hk3, fun z hz => (hb3 z hz).same s9, ⟨ndy, sortedS_up st, by omega, fun z hz => hn z (mem z hz)⟩, d1, d3⟩
end Sf

/-! ### commands -/
namespace Sf
open PySem PySem.Spec PyProof.Rows L2
theorem same_made {H : Hp} {C n d : Addr} (hn : H n = none) (hd : H d = none) : Same H (upd (upd H d (.own n)) n (.ins C d [])) := fun b o e => by
  rw [upd_ne (ne_of_none e hn), upd_ne (ne_of_none e hd)]; exact e
theorem same_sx {H G H' : Hp} {n : Addr} (hn : H n = none) (s : Same H G) (x : SX n G H') : Same H H' := fun b o e => x b o (s b o e) (ne_of_none e hn)
theorem mkParts {K : PySem.W.Frag} {H : Hp} {d : Int} {bd : Addr} {l : List Str} {val : Str → V} {bl : Str → Option Int} {Q : VK} (hbd : H bd = some (.dK (kvL val l))) (hb : BlksAt K H l val bl) (nd : l.Nodup) (hl : l.length ≤ 12) (hn : ∀ z ∈ l, Nm z = true) (d1 : 1 ≤ d) (d3 : d ≤ 3)
    (hq : ∀ H' p', Same H H' → PartsAt K H' p' d (srt l) bl → Q p' H') : ∀ n d', H n = none → H d' = none → d' ≠ n → sp_Parts__init_ K [.ref n, .int d, .ref bd] (upd (upd H d' (.own n)) n (.ins (He.ga K "Parts") d' [])) (fun v H2 => v = .non ∧ Q (.ref n) H2) E0 := fun n d' h1 h2 h3 =>
  have s := same_made (C := He.ga K "Parts") h1 h2
  ⟨n, d', d, bd, l, val, bl, rfl, upd_same, s _ _ hbd, fun z hz => (hb z hz).same s, nd, hl, hn, d1, d3, fun H' sx hp => ⟨rfl, hq _ _ (same_sx h1 s sx) hp⟩⟩
theorem inV_no {z : Str} : ∀ {ks : List Str}, z ∉ ks → inV (.str z) (ks.map V.str) = false := fun {ks} h => by
  unfold inV
  rw [List.any_map, List.any_eq_false]
  intro y hy e
  exact h (show z ∈ ks from (beq_iff_eq.mp (show (y == z) = true from e)) ▸ hy)
theorem flat_strs (ks : List Str) : (ks.map V.str).all flatV = true := by
  rw [List.all_map]
  exact List.all_eq_true.mpr fun _ _ => rfl
def capF : List (Str × V) := [("tag", .str "CapacityExceeded"), ("capacity", .int 12)]
/-- the way out -/
def Full (K : PySem.W.Frag) (H : Hp) (E : XK) : Prop := ∀ H' dd, Same H H' → H' dd = some (.xd capF) → E (.ref (He.ga K "CapacityExceeded")) (some dd) H'
theorem Full.same {K : PySem.W.Frag} {H H' : Hp} {E : XK} (s : Same H H') (h : Full K H E) : Full K H' E := fun H2 dd s2 e => h H2 dd (s.trans s2) e
def sp_cap (K : PySem.W.Frag) : Sp := fun vs H Q E => ∃ a, vs = [.ref a, .int 12] ∧ H a = some (exo a (He.ga K "CapacityExceeded") none) ∧ ∀ d, H d = none → d ≠ a → Q .non (upd (upd (upd H d (exd d [("capacity", .int 12)])) a (exo a (He.ga K "CapacityExceeded") (some d))) d (exd d capF))
theorem sc_cap : FnScope ["self", "capacity"] ["self", "capacity"] (defScope (clsS 8 0)) := ⟨rfl, rfl, rfl, by decide +kernel, rfl, by decide +kernel, by decide +kernel⟩
theorem ok_cap {P : Program} {w : World} {K : PySem.W.Frag} {mg : Str → Option Value} {base : Heap} (T : Tx w K mg) :
    ∃ fd, FnOk P w K mg base (L2.CX P w) 1 (He.ma K (He.ga K "CapacityExceeded") "__init__") fd ["self", "capacity"] (sp_cap K) ∧ Binds K fd ["self", "capacity"] [] := by
  obtain ⟨fd, F, G⟩ := mkOk (P := P) (w := w) (mg := mg) (base := base) (sp := sp_cap K) T.f_CapacityExceeded__init_ sc_cap (fun vs H Q E h => by obtain ⟨a, rfl, h⟩ := h; rfl) (fun cdv A outer s H vs Q E hr h => by
    obtain ⟨a, rfl, ha, hq⟩ := h
    refine ⟨_, pss_cons (ps_ost (pv 0) (pv 1)) (pss_one (ps_ost (pv 0) pe_str)), ?_⟩
    refine start_of (σ := [some (.ref a), some (.int 12)]) rfl ?_
    refine ⟨_, rfl, _, rfl, a, _, rfl, T.x_oex, T.x_capacity, .inl ⟨ha, fun d hd nd => ?_⟩⟩
    refine ⟨_, rfl, a, _, rfl, T.x_oex, T.x_tag, .inr ⟨d, [("capacity", .int 12)], upd_same, by rw [upd_ne nd, upd_same], by decide, ?_⟩⟩
    exact hq d hd nd)
  exact ⟨fd, G, bindsOk F fun _ _ _ _ _ _ us hl => match us, hl with | [_, _], _ => rfl⟩
/-- a command -/
inductive Cm where
  | dfn (z : Str) (b : Option Int)
  | drp (z : Str)
  | ren (z n : Str)
def Cm.ok (ks : List Str) : Cm → Prop
  | .dfn z _ => Nm z = true ∧ z ∉ ks
  | .drp z => z ∈ ks
  | .ren z n => z ∈ ks ∧ Nm n = true ∧ n ∉ ks
def Cm.full (ks : List Str) : Cm → Prop
  | .dfn _ _ => ks.length = 12
  | _ => False
def Cm.nk (ks : List Str) : Cm → List Str
  | .dfn z _ => srt (ks ++ [z])
  | .drp z => srt (ks.filter fun y => decide (y ≠ z))
  | .ren z n => srt (ks.map fun y => if y = z then n else y)
def Cm.nb (bl : Str → Option Int) : Cm → Str → Option Int
  | .dfn z b => fun y => if y = z then b else bl y
  | .drp _ => bl
  | .ren z n => fun y => if y = n then bl z else bl y
def CmAt (K : PySem.W.Frag) (H : Hp) (v : V) : Cm → Prop
  | .dfn z b => ∃ a u, v = .ref a ∧ SqT K H a [.str "define", .str z, u] ∧ BlkAt K H u b
  | .drp z => ∃ a, v = .ref a ∧ SqT K H a [.str "drop", .str z]
  | .ren z n => ∃ a, v = .ref a ∧ SqT K H a [.str "rename", .str z, .str n]
theorem CmAt.same {K : PySem.W.Frag} {H H' : Hp} {v : V} {c : Cm} (s : Same H H') (h : CmAt K H v c) : CmAt K H' v c := by
  cases c with
  | dfn z b => obtain ⟨a, u, e, h1, h2⟩ := h; exact ⟨a, u, e, same_tup s h1, h2.same s⟩
  | drp z => obtain ⟨a, e, h1⟩ := h; exact ⟨a, e, same_tup s h1⟩
  | ren z n => obtain ⟨a, e, h1⟩ := h; exact ⟨a, e, same_tup s h1⟩
/-! check_command -/
def sp_check_command (K : PySem.W.Frag) : Sp := fun vs H Q E => ∃ v c, vs = [v] ∧ CmAt K H v c ∧ Q .non H
abbrev sc_check_commandN : List Str := ["command", "first"]
theorem sc_check_command : FnScope sc_check_commandN ["command"] (defScope (topS 85)) := ⟨rfl, rfl, rfl, by decide +kernel, rfl, by decide +kernel, by decide +kernel⟩
theorem r_check_command {P : Program} {w : World} {K : PySem.W.Frag} {mg : Str → Option Value} {base : Heap} (T : Tx w K mg) : FnR P w K mg base (L2.CX P w) 1 (He.ga K "check_command") (sp_check_command K) := by
  refine mkR T.f_check_command sc_check_command (fun _ _ _ _ _ _ us hl => match us, hl with | [_], _ => rfl) (fun vs H Q E h => by obtain ⟨v, c, rfl, hc, hq⟩ := h; rfl) (fun cdv A outer s H vs Q E hr h => ?_)
  obtain ⟨v, c, rfl, hc, hq⟩ := h
  obtain ⟨es, n, KD⟩ := T.d_LENGTHS
  refine ⟨_, (pss_cons (ps_set (i := 1) sc_check_command.nd rfl (Or.inl rfl) (pe_ifExp (pt_cmpR op_gt (pe_callB (r := rLenS K) call_lenS (by rfl) T.n_len boot_len (pa_cons (pv 0) pa_nil)) (pe_int) (nomark _)) (pe_ix (r := rIxT K) ix_tup (pv 0) (pe_int) (fun _ _ => rfl)) (pe_non))) (pss_one (ps_if (PW.pt (pw_or (pt_cmpR (op_notIn_kd KD) (pv 1) (pe_glob (v := .ref (He.ga K "LENGTHS")) rfl T.g_LENGTHS rfl) (by rfl)) (pw_or1 (pt_cmpR op_ne (pe_callB (r := rLenS K) call_lenS (by rfl) T.n_len boot_len (pa_cons (pv 0) pa_nil)) (pe_ix (ix_kd KD) (pe_glob (v := .ref (He.ga K "LENGTHS")) rfl T.g_LENGTHS rfl) (pv 1) (fun _ _ => rfl)) (nomark _))))) (pss_one ps_never) pss_nil))), ?_⟩
  refine start_of (σ := [some v, none]) rfl ?_
  cases c with
  | dfn z b =>
    obtain ⟨a, u, rfl, ht, hb⟩ := hc
    obtain ⟨u0, k1, k2⟩ := T.v_LENGTHS ("define", 3) (by simp)
    simp only [rd, rd2, rd3, rd4, List.getElem?_cons_zero, List.getElem?_cons_succ, Option.some.injEq, exists_eq_left', exists_eq_left, exists_and_left, exists_and_right, List.cons.injEq, V.str.injEq, V.int.injEq, V.bl.injEq, V.ref.injEq, V.ty.injEq, and_true, true_and, List.set_cons_zero, List.set_cons_succ, exists_const, exists_false, reduceCtorEq, ↓reduceIte, exists_eq, exists_eq', and_self, cxK, wipe, List.map_cons, List.map_nil, List.length_cons, List.length_nil, Nat.zero_add, Nat.reduceAdd, Int.cast_ofNat_Int, Int.reduceEq, Int.reduceLE, Int.reduceLT, decide_eq_true_eq, decide_true, decide_false, Bool.true_eq_false, Bool.false_eq_true, Bool.not_true, Bool.not_false]
    refine ⟨_, .inr ht, ?_⟩
    rw [if_pos (by simp)]
    refine ⟨_, ht, _, rfl, _, rfl, _, k1, ?_⟩
    rw [if_neg (by rw [Option.isSome_some]; decide)]
    refine ⟨_, .inr ht, _, rfl, _, k1, _, k2, rfl, ?_⟩
    rw [if_neg (by simp)]
    exact hq
  | drp z =>
    obtain ⟨a, rfl, ht⟩ := hc
    obtain ⟨u0, k1, k2⟩ := T.v_LENGTHS ("drop", 2) (by simp)
    simp only [rd, rd2, rd3, rd4, List.getElem?_cons_zero, List.getElem?_cons_succ, Option.some.injEq, exists_eq_left', exists_eq_left, exists_and_left, exists_and_right, List.cons.injEq, V.str.injEq, V.int.injEq, V.bl.injEq, V.ref.injEq, V.ty.injEq, and_true, true_and, List.set_cons_zero, List.set_cons_succ, exists_const, exists_false, reduceCtorEq, ↓reduceIte, exists_eq, exists_eq', and_self, cxK, wipe, List.map_cons, List.map_nil, List.length_cons, List.length_nil, Nat.zero_add, Nat.reduceAdd, Int.cast_ofNat_Int, Int.reduceEq, Int.reduceLE, Int.reduceLT, decide_eq_true_eq, decide_true, decide_false, Bool.true_eq_false, Bool.false_eq_true, Bool.not_true, Bool.not_false]
    refine ⟨_, .inr ht, ?_⟩
    rw [if_pos (by simp)]
    refine ⟨_, ht, _, rfl, _, rfl, _, k1, ?_⟩
    rw [if_neg (by rw [Option.isSome_some]; decide)]
    refine ⟨_, .inr ht, _, rfl, _, k1, _, k2, rfl, ?_⟩
    rw [if_neg (by simp)]
    exact hq
  | ren z n =>
    obtain ⟨a, rfl, ht⟩ := hc
    obtain ⟨u0, k1, k2⟩ := T.v_LENGTHS ("rename", 3) (by simp)
    simp only [rd, rd2, rd3, rd4, List.getElem?_cons_zero, List.getElem?_cons_succ, Option.some.injEq, exists_eq_left', exists_eq_left, exists_and_left, exists_and_right, List.cons.injEq, V.str.injEq, V.int.injEq, V.bl.injEq, V.ref.injEq, V.ty.injEq, and_true, true_and, List.set_cons_zero, List.set_cons_succ, exists_const, exists_false, reduceCtorEq, ↓reduceIte, exists_eq, exists_eq', and_self, cxK, wipe, List.map_cons, List.map_nil, List.length_cons, List.length_nil, Nat.zero_add, Nat.reduceAdd, Int.cast_ofNat_Int, Int.reduceEq, Int.reduceLE, Int.reduceLT, decide_eq_true_eq, decide_true, decide_false, Bool.true_eq_false, Bool.false_eq_true, Bool.not_true, Bool.not_false]
    refine ⟨_, .inr ht, ?_⟩
    rw [if_pos (by simp)]
    refine ⟨_, ht, _, rfl, _, rfl, _, k1, ?_⟩
    rw [if_neg (by rw [Option.isSome_some]; decide)]
    refine ⟨_, .inr ht, _, rfl, _, k1, _, k2, rfl, ?_⟩
    rw [if_neg (by simp)]
    exact hq
/-! check_new -/
def sp_check_new (K : PySem.W.Frag) : Sp := fun vs H Q E => ∃ p d ks bl z, vs = [p, .str z] ∧ PartsAt K H p d ks bl ∧ Nm z = true ∧ z ∉ ks ∧ ∀ H', Same H H' → Q .non H'
abbrev sc_check_newN : List Str := ["parts", "name"]
theorem sc_check_new : FnScope sc_check_newN ["parts", "name"] (defScope (topS 86)) := ⟨rfl, rfl, rfl, by decide +kernel, rfl, by decide +kernel, by decide +kernel⟩
theorem r_check_new {P : Program} {w : World} {K : PySem.W.Frag} {mg : Str → Option Value} {base : Heap} (T : Tx w K mg) : FnR P w K mg base (L2.CX P w) 2 (He.ga K "check_new") (sp_check_new K) := by
  refine mkR T.f_check_new sc_check_new (fun _ _ _ _ _ _ us hl => match us, hl with | [_, _], _ => rfl) (fun vs H Q E h => by obtain ⟨p, d, ks, bl, z, rfl, hp, hz, nz, hq⟩ := h; rfl) (fun cdv A outer s H vs Q E hr h => ?_)
  obtain ⟨p, d, ks, bl, z, rfl, hp, hz, nz, hq⟩ := h
  obtain ⟨a, dx, kd, kn, val, rfl, h1, h2, h3, h4⟩ := id hp
  refine ⟨_, (pss_cons (ps_if (pt_not (pt_val (pe_f (r_is_name (P := P) (w := w) (K := K) (base := base) T) T.g_is_name T.f_is_name.keep hr passL (pa_cons (pv 1) pa_nil)))) (pss_one ps_never) pss_nil) (pss_one (ps_if (pt_cmpR (r := rIn K false) op_in_seq (pv 1) (pe_m0 (pv 0) (r_Parts_names (P := P) (w := w) (K := K) (base := base) T) T.c_Parts T.t_Parts_names hr passL) (by rfl)) (pss_one ps_never) pss_nil))), ?_⟩
  refine start_of (σ := [some (.ref a), some (.str z)]) rfl ?_
  simp only [rd, rd2, rd3, rd4, List.getElem?_cons_zero, List.getElem?_cons_succ, Option.some.injEq, exists_eq_left', exists_eq_left, exists_and_left, exists_and_right, List.cons.injEq, V.str.injEq, V.int.injEq, V.bl.injEq, V.ref.injEq, V.ty.injEq, and_true, true_and, List.set_cons_zero, List.set_cons_succ, exists_const, exists_false, reduceCtorEq, ↓reduceIte, exists_eq, exists_eq', and_self, cxK, wipe, List.map_cons, List.map_nil, List.length_cons, List.length_nil, Nat.zero_add, Nat.reduceAdd, Int.cast_ofNat_Int, Int.reduceEq, Int.reduceLE, Int.reduceLT, decide_eq_true_eq, decide_true, decide_false, Bool.true_eq_false, Bool.false_eq_true, Bool.not_true, Bool.not_false]
  refine ⟨z, rfl, hz, fun H1 s1 => ⟨true, rfl, ?_⟩⟩
  rw [if_neg (by decide)]
  refine ⟨_, _, s1 _ _ h1, rfl, _, d, ks, bl, rfl, hp.same s1, fun p hp2 => ?_⟩
  simp only [rd, rd2, rd3, rd4, List.getElem?_cons_zero, List.getElem?_cons_succ, Option.some.injEq, exists_eq_left', exists_eq_left, exists_and_left, exists_and_right, List.cons.injEq, V.str.injEq, V.int.injEq, V.bl.injEq, V.ref.injEq, V.ty.injEq, and_true, true_and, List.set_cons_zero, List.set_cons_succ, exists_const, exists_false, reduceCtorEq, ↓reduceIte, exists_eq, exists_eq', and_self, cxK, wipe, List.map_cons, List.map_nil, List.length_cons, List.length_nil, Nat.zero_add, Nat.reduceAdd, Int.cast_ofNat_Int, Int.reduceEq, Int.reduceLE, Int.reduceLT, decide_eq_true_eq, decide_true, decide_false, Bool.true_eq_false, Bool.false_eq_true, Bool.not_true, Bool.not_false]
  have e : inV (.str z) (ks.map V.str) = false := inV_no nz
  refine ⟨_, .inl (.of upd_same), rfl, flat_strs ks, ?_⟩
  rw [e, if_neg Bool.false_ne_true]
  exact hq _ (s1.trans (same_upd hp2))
/-! defined -/
def sp_defined (K : PySem.W.Frag) : Sp := fun vs H Q E => ∃ p d ks bl z v b, vs = [p, .str z, v] ∧ PartsAt K H p d ks bl ∧ Nm z = true ∧ z ∉ ks ∧ BlkAt K H v b ∧ (ks.length = 12 → Full K H E) ∧ (ks.length ≠ 12 → ∀ H' p', Same H H' → PartsAt K H' p' d (srt (ks ++ [z])) (fun y => if y = z then b else bl y) → Q p' H')
abbrev sc_definedN : List Str := ["parts", "name", "block", "blocks"]
theorem sc_defined : FnScope sc_definedN ["parts", "name", "block"] (defScope (topS 87)) := ⟨rfl, rfl, rfl, by decide +kernel, rfl, by decide +kernel, by decide +kernel⟩
theorem r_defined {P : Program} {w : World} {K : PySem.W.Frag} {mg : Str → Option Value} {base : Heap} (T : Tx w K mg) : FnR P w K mg base (L2.CX P w) 8 (He.ga K "defined") (sp_defined K) := by
  refine mkR T.f_defined sc_defined (fun _ _ _ _ _ _ us hl => match us, hl with | [_, _, _], _ => rfl) (fun vs H Q E h => by obtain ⟨p, d, ks, bl, z, v, b, rfl, hp, hz, nz, hb, hf, hq⟩ := h; rfl) (fun cdv A outer s H vs Q E hr h => ?_)
  obtain ⟨p, d, ks, bl, z, v, b, rfl, hp, hz, nz, hb, hf, hq⟩ := h
  obtain ⟨fd, F1, b1⟩ := ok_cap (P := P) (base := base) T; obtain ⟨a, dx, kd, kn, val, rfl, h1, h2, h3, h4⟩ := id hp
  refine ⟨_, (pss_cons (ps_expr (pe_f (r_check_new (P := P) (w := w) (K := K) (base := base) T) T.g_check_new T.f_check_new.keep hr passL (pa_cons (pv 0) (pa_cons (pv 1) pa_nil)))) (pss_cons (ps_if (pt_cmpR op_eq (pe_callB (r := rLenS K) call_lenS (by rfl) T.n_len boot_len (pa_cons (pe_m0 (pv 0) (r_Parts_names (P := P) (w := w) (K := K) (base := base) T) T.c_Parts T.t_Parts_names hr passL) pa_nil)) (C8.pe_gc (by rfl) T.i_MAX_PARTS) (nomark _)) (pss_one (ps_raise rfl (takes_of rfl rfl rfl rfl) (pmk_oex T.x_oex T.x_ini T.x_ty F1 (hr.mono (by decide)) b1 .nil passL (by rfl) T.g_CapacityExceeded (pa_cons (C8.pe_gc (by rfl) T.i_MAX_PARTS) pa_nil)))) pss_nil) (pss_cons (ps_expr (pe_m (pv 0) (r_Parts_check (P := P) (w := w) (K := K) (base := base) T) T.c_Parts T.t_Parts_check hr passL (pa_cons (pv 2) pa_nil))) (pss_cons (ps_set (i := 3) sc_defined.nd rfl (Or.inl rfl) (pe_m0 (pv 0) (r_Parts_blocks (P := P) (w := w) (K := K) (base := base) T) T.c_Parts T.t_Parts_blocks hr passL)) (pss_cons (ps_dput (hu_of hr) (pv 3) (pv 1) (pv 2) rfl) (pss_one (ps_ret (pe_mk T.m_Parts (r_Parts__init_ (P := P) (w := w) (K := K) (base := base) T) hr (by rfl) T.g_Parts passL (pa_cons (pe_pr (r_Parts_dimension (P := P) (w := w) (K := K) (base := base) T) T.c_Parts T.p_Parts_dimension hr (pv 0)) (pa_cons (pv 3) pa_nil)))))))))), ?_⟩
  refine start_of (σ := [some (.ref a), some (.str z), some v, none]) rfl ?_
  simp only [rd, rd2, rd3, rd4, List.getElem?_cons_zero, List.getElem?_cons_succ, Option.some.injEq, exists_eq_left', exists_eq_left, exists_and_left, exists_and_right, List.cons.injEq, V.str.injEq, V.int.injEq, V.bl.injEq, V.ref.injEq, V.ty.injEq, and_true, true_and, List.set_cons_zero, List.set_cons_succ, exists_const, exists_false, reduceCtorEq, ↓reduceIte, exists_eq, exists_eq', and_self, cxK, wipe, List.map_cons, List.map_nil, List.length_cons, List.length_nil, Nat.zero_add, Nat.reduceAdd, Int.cast_ofNat_Int, Int.reduceEq, Int.reduceLE, Int.reduceLT, decide_eq_true_eq, decide_true, decide_false, Bool.true_eq_false, Bool.false_eq_true, Bool.not_true, Bool.not_false]
  refine ⟨_, d, ks, bl, z, rfl, hp, hz, nz, fun H1 s1 => ⟨_, _, s1 _ _ h1, rfl, _, d, ks, bl, rfl, hp.same s1, fun p hp2 => ?_⟩⟩
  have s2 := s1.trans (same_upd (o := .lst (ks.map V.str)) hp2)
  simp only [rd, rd2, rd3, rd4, List.getElem?_cons_zero, List.getElem?_cons_succ, Option.some.injEq, exists_eq_left', exists_eq_left, exists_and_left, exists_and_right, List.cons.injEq, V.str.injEq, V.int.injEq, V.bl.injEq, V.ref.injEq, V.ty.injEq, and_true, true_and, List.set_cons_zero, List.set_cons_succ, exists_const, exists_false, reduceCtorEq, ↓reduceIte, exists_eq, exists_eq', and_self, cxK, wipe, List.map_cons, List.map_nil, List.length_cons, List.length_nil, Nat.zero_add, Nat.reduceAdd, Int.cast_ofNat_Int, Int.reduceEq, Int.reduceLE, Int.reduceLT, decide_eq_true_eq, decide_true, decide_false, Bool.true_eq_false, Bool.false_eq_true, Bool.not_true, Bool.not_false]
  refine ⟨_, .inl (.of upd_same), rfl, ?_⟩
  rw [List.length_map]
  by_cases hk : ks.length = 12
  · rw [if_pos (by omega)]
    refine ⟨by decide, fun a2 ha2 => ⟨a2, rfl, upd_same, fun dd hdd nd => ⟨rfl, dd, capF, ?_, upd_same, ?_, hf hk _ dd ?_ upd_same⟩⟩⟩
    · rw [upd_ne nd.symm, upd_same]
    · rw [upd_ne nd] at hdd; exact hdd
    · rw [upd_ne nd] at hdd
      have h0 := s2.free hdd
      have h0a := s2.free ha2
      intro b o e
      have b1 := ne_of_none e h0
      have b2 := ne_of_none e h0a
      rw [upd_ne b1]
      unfold del
      rw [if_neg b2, upd_ne b1, upd_ne b2, upd_ne b1, upd_ne b2]
      exact s2 _ _ e
  · rw [if_neg (by omega)]
    refine ⟨_, _, s2 _ _ h1, rfl, _, d, ks, bl, _, b, rfl, hp.same s2, hb.same s2, fun H3 s3 => ?_⟩
    have s4 := s2.trans s3
    refine ⟨_, _, s4 _ _ h1, rfl, _, d, ks, bl, rfl, hp.same s4, fun bd val2 hbd hb2 => ?_⟩
    have ha3 := s4 _ _ h1
    have hu : upd (upd H3 bd (.dK (kvL val2 ks))) bd (.dK (putK (kvL val2 ks) (Sum.inr z) v)) a = some (.ins (He.ga K "Parts") dx [("ground", .int d), ("kept", .ref kd), ("known", kn)]) := by
      rw [upd_upd, upd_ne (ne_of_none ha3 hbd)]; exact ha3
    refine ⟨bd, rfl, _, .inl ⟨_, Sum.inr z, upd_same, rfl, ?_, rfl⟩, ⟨_, _, hu⟩, ?_⟩
    · rw [kvL_len, sizeLine_eq]; have := h4.1.2.2.1; omega
    · rw [upd_upd, kvL_new _ _ nz]
      have s5 := s4.trans (same_upd (o := .dK (kvL (fun y => if y = z then v else val2 y) (ks ++ [z]))) hbd)
      refine ⟨_, d, ks, bl, rfl, hp.same s5, mkParts upd_same (fun y hy => ?_) ?_ ?_ (fun y hy => ?_) h4.2.1 h4.2.2 fun H' p' s6 hp' => hq hk _ _ (s5.trans s6) hp'⟩
      · by_cases e : y = z
        · show BlkAt K _ (if y = z then v else val2 y) (if y = z then b else bl y)
          rw [if_pos e, if_pos e]; exact hb.same s5
        · show BlkAt K _ (if y = z then v else val2 y) (if y = z then b else bl y)
          rw [if_neg e, if_neg e]
          exact (hb2 y ((List.mem_append.mp hy).resolve_right fun q => e (List.mem_singleton.mp q))).same (same_upd hbd)
      · exact List.nodup_append.mpr ⟨h4.1.1, by simp, fun x hx y hy e => nz (List.mem_singleton.mp hy ▸ e ▸ hx)⟩
      · rw [List.length_append, List.length_singleton]; have := h4.1.2.2.1; omega
      · rcases List.mem_append.mp hy with h | h
        · exact h4.1.2.2.2 y h
        · rw [List.mem_singleton.mp h]; exact hz
/-! dropped -/
def sp_dropped (K : PySem.W.Frag) : Sp := fun vs H Q E => ∃ p d ks bl z, vs = [p, .str z] ∧ PartsAt K H p d ks bl ∧ z ∈ ks ∧ (∀ H' p', Same H H' → PartsAt K H' p' d (srt (ks.filter fun y => decide (y ≠ z))) bl → Q p' H')
abbrev sc_droppedN : List Str := ["parts", "name", "users", "blocks"]
theorem sc_dropped : FnScope sc_droppedN ["parts", "name"] (defScope (topS 90)) := ⟨rfl, rfl, rfl, by decide +kernel, rfl, by decide +kernel, by decide +kernel⟩
theorem r_dropped {P : Program} {w : World} {K : PySem.W.Frag} {mg : Str → Option Value} {base : Heap} (T : Tx w K mg) : FnR P w K mg base (L2.CX P w) 8 (He.ga K "dropped") (sp_dropped K) := by
  refine mkR T.f_dropped sc_dropped (fun _ _ _ _ _ _ us hl => match us, hl with | [_, _], _ => rfl) (fun vs H Q E h => by obtain ⟨p, d, ks, bl, z, rfl, hp, hz, hq⟩ := h; rfl) (fun cdv A outer s H vs Q E hr h => ?_)
  obtain ⟨p, d, ks, bl, z, rfl, hp, hz, hq⟩ := h
  obtain ⟨a, dx, kd, kn, val, rfl, h1, h2, h3, h4⟩ := id hp
  refine ⟨_, (pss_cons (ps_set (i := 2) sc_dropped.nd rfl (Or.inl rfl) (pe_m (pv 0) (r_Parts_users (P := P) (w := w) (K := K) (base := base) T) T.c_Parts T.t_Parts_users hr passL (pa_cons (pv 1) pa_nil))) (pss_cons (ps_if (pt_cmpR (r := rNeD K) (op_neD hr.units) (pv 2) (pe_lst pa_nil) (nomark _)) (pss_one ps_never) pss_nil) (pss_cons (ps_set (i := 3) sc_dropped.nd rfl (Or.inl rfl) (pe_m0 (pv 0) (r_Parts_blocks (P := P) (w := w) (K := K) (base := base) T) T.c_Parts T.t_Parts_blocks hr passL)) (pss_cons (ps_ddel (pv 3) (pv 1)) (pss_one (ps_ret (pe_mk T.m_Parts (r_Parts__init_ (P := P) (w := w) (K := K) (base := base) T) hr (by rfl) T.g_Parts passL (pa_cons (pe_pr (r_Parts_dimension (P := P) (w := w) (K := K) (base := base) T) T.c_Parts T.p_Parts_dimension hr (pv 0)) (pa_cons (pv 3) pa_nil))))))))), ?_⟩
  refine start_of (σ := [some (.ref a), some (.str z), none, none]) rfl ?_
  simp only [rd, rd2, rd3, rd4, List.getElem?_cons_zero, List.getElem?_cons_succ, Option.some.injEq, exists_eq_left', exists_eq_left, exists_and_left, exists_and_right, List.cons.injEq, V.str.injEq, V.int.injEq, V.bl.injEq, V.ref.injEq, V.ty.injEq, and_true, true_and, List.set_cons_zero, List.set_cons_succ, exists_const, exists_false, reduceCtorEq, ↓reduceIte, exists_eq, exists_eq', and_self, cxK, wipe, List.map_cons, List.map_nil, List.length_cons, List.length_nil, Nat.zero_add, Nat.reduceAdd, Int.cast_ofNat_Int, Int.reduceEq, Int.reduceLE, Int.reduceLT, decide_eq_true_eq, decide_true, decide_false, Bool.true_eq_false, Bool.false_eq_true, Bool.not_true, Bool.not_false]
  refine ⟨_, _, h1, rfl, _, d, ks, bl, z, rfl, hp, hz, fun H1 l s1 hl => ⟨Nat.zero_le _, fun p2 h2' => ⟨_, _, .lst (.of ((same_upd h2') _ _ hl)) .nil, .lst (.of upd_same) .nil, rfl, rfl, false, rfl, ?_⟩⟩⟩
  rw [if_neg Bool.false_ne_true]
  have s2 := s1.trans (same_upd (o := .lst []) h2')
  refine ⟨_, _, s2 _ _ h1, rfl, _, d, ks, bl, rfl, hp.same s2, fun bd val2 hbd hb2 => ?_⟩
  refine ⟨_, rfl, _, rfl, bd, _, Sum.inr z, rfl, upd_same, rfl, by rw [kvL_get, if_pos hz]; rfl, ?_⟩
  rw [upd_upd, kvL_drop]
  have s5 := s2.trans (same_upd (o := .dK (kvL val2 (ks.filter fun y => decide (y ≠ z)))) hbd)
  simp only [rd, rd2, rd3, rd4, List.getElem?_cons_zero, List.getElem?_cons_succ, Option.some.injEq, exists_eq_left', exists_eq_left, exists_and_left, exists_and_right, List.cons.injEq, V.str.injEq, V.int.injEq, V.bl.injEq, V.ref.injEq, V.ty.injEq, and_true, true_and, List.set_cons_zero, List.set_cons_succ, exists_const, exists_false, reduceCtorEq, ↓reduceIte, exists_eq, exists_eq', and_self, cxK, wipe, List.map_cons, List.map_nil, List.length_cons, List.length_nil, Nat.zero_add, Nat.reduceAdd, Int.cast_ofNat_Int, Int.reduceEq, Int.reduceLE, Int.reduceLT, decide_eq_true_eq, decide_true, decide_false, Bool.true_eq_false, Bool.false_eq_true, Bool.not_true, Bool.not_false]
  refine ⟨⟨_, _, s5 _ _ h1⟩, _, d, ks, bl, rfl, hp.same s5, mkParts upd_same (fun y hy => (hb2 y (List.mem_filter.mp hy).1).same (same_upd hbd)) (h4.1.1.filter _) (Nat.le_trans (List.length_filter_le _ _) h4.1.2.2.1) (fun y hy => h4.1.2.2.2 y (List.mem_filter.mp hy).1) h4.2.1 h4.2.2 fun H' p' s6 hp' => hq _ _ (s5.trans s6) hp'⟩
theorem ren_inj {z n : Str} {ks : List Str} (hn : n ∉ ks) {x y : Str} (hx : x ∈ ks) (hy : y ∈ ks) (e : (if x = z then n else x) = if y = z then n else y) : x = y := by
  by_cases h1 : x = z
  · rw [if_pos h1] at e
    by_cases h2 : y = z
    · rw [h1, h2]
    · rw [if_neg h2] at e
      exact absurd (e ▸ hy) hn
  · rw [if_neg h1] at e
    by_cases h2 : y = z
    · rw [if_pos h2] at e
      exact absurd (e ▸ hx) hn
    · rw [if_neg h2] at e
      exact e
/-! renamed_part -/
def sp_renamed_part (K : PySem.W.Frag) : Sp := fun vs H Q E => ∃ p d ks bl z n, vs = [p, .str z, .str n] ∧ PartsAt K H p d ks bl ∧ z ∈ ks ∧ Nm n = true ∧ n ∉ ks ∧ (∀ H' p', Same H H' → PartsAt K H' p' d (srt (ks.map fun y => if y = z then n else y)) (fun y => if y = n then bl z else bl y) → Q p' H')
abbrev sc_renamed_partN : List Str := ["parts", "name", "new", "blocks", "other", "block"]
theorem sc_renamed_part : FnScope sc_renamed_partN ["parts", "name", "new"] (defScope (topS 89)) := ⟨rfl, rfl, rfl, by decide +kernel, rfl, by decide +kernel, by decide +kernel⟩
theorem r_renamed_part {P : Program} {w : World} {K : PySem.W.Frag} {mg : Str → Option Value} {base : Heap} (T : Tx w K mg) : FnR P w K mg base (L2.CX P w) 8 (He.ga K "renamed_part") (sp_renamed_part K) := by
  refine mkR T.f_renamed_part sc_renamed_part (fun _ _ _ _ _ _ us hl => match us, hl with | [_, _, _], _ => rfl) (fun vs H Q E h => by obtain ⟨p, d, ks, bl, z, n, rfl, hp, hz, hn, nz, hq⟩ := h; rfl) (fun cdv A outer s H vs Q E hr h => ?_)
  obtain ⟨p, d, ks, bl, z, n, rfl, hp, hz, hn, nz, hq⟩ := h
  obtain ⟨a, dx, kd, kn, val, rfl, h1, h2, h3, h4⟩ := id hp
  refine ⟨_, (pss_cons (ps_expr (pe_m (pv 0) (r_Parts_block (P := P) (w := w) (K := K) (base := base) T) T.c_Parts T.t_Parts_block hr passL (pa_cons (pv 1) pa_nil))) (pss_cons (ps_expr (pe_f (r_check_new (P := P) (w := w) (K := K) (base := base) T) T.g_check_new T.f_check_new.keep hr passL (pa_cons (pv 0) (pa_cons (pv 2) pa_nil)))) (pss_cons (ps_set (i := 3) sc_renamed_part.nd rfl (Or.inl rfl) (pe_dnewK)) (pss_cons (ps_for (passes_of rfl) rfl (pi_items (pe_frz (pe_m0 (pv 0) (r_Parts_blocks (P := P) (w := w) (K := K) (base := base) T) T.c_Parts T.t_Parts_blocks hr passL))) (kpg (K := K) (n := 2) (pg_tup rfl (pgs_cons (pg_name (i := 4) sc_renamed_part.nd rfl (Or.inl rfl)) (pgs_cons (pg_name (i := 5) sc_renamed_part.nd rfl (Or.inl rfl)) pgs_nil)))) (pss_one (ps_dput (hu_of hr) (pv 3) (pe_ifExp (pt_cmpR op_eq (pv 4) (pv 1) (nomark _)) (pv 2) (pv 4)) (pe_f (r_renamed (P := P) (w := w) (K := K) (base := base) T) T.g_renamed T.f_renamed.keep hr passL (pa_cons (pv 5) (pa_cons (pv 1) (pa_cons (pv 2) pa_nil)))) rfl))) (pss_one (ps_ret (pe_mk T.m_Parts (r_Parts__init_ (P := P) (w := w) (K := K) (base := base) T) hr (by rfl) T.g_Parts passL (pa_cons (pe_pr (r_Parts_dimension (P := P) (w := w) (K := K) (base := base) T) T.c_Parts T.p_Parts_dimension hr (pv 0)) (pa_cons (pv 3) pa_nil))))))))), ?_⟩
  refine start_of (σ := [some (.ref a), some (.str z), some (.str n), none, none, none]) rfl ?_
  simp only [rd, rd2, rd3, rd4, List.getElem?_cons_zero, List.getElem?_cons_succ, Option.some.injEq, exists_eq_left', exists_eq_left, exists_and_left, exists_and_right, List.cons.injEq, V.str.injEq, V.int.injEq, V.bl.injEq, V.ref.injEq, V.ty.injEq, and_true, true_and, List.set_cons_zero, List.set_cons_succ, exists_const, exists_false, reduceCtorEq, ↓reduceIte, exists_eq, exists_eq', and_self, cxK, wipe, List.map_cons, List.map_nil, List.length_cons, List.length_nil, Nat.zero_add, Nat.reduceAdd, Int.cast_ofNat_Int, Int.reduceEq, Int.reduceLE, Int.reduceLT, decide_eq_true_eq, decide_true, decide_false, Bool.true_eq_false, Bool.false_eq_true, Bool.not_true, Bool.not_false]
  refine ⟨_, _, h1, rfl, _, d, ks, bl, z, rfl, hp, hz, fun u0 _ => ⟨_, d, ks, bl, n, rfl, hp, hn, nz, fun H1 s1 p hp0 => ?_⟩⟩
  have s2 := s1.trans (same_upd (o := .dK []) hp0)
  refine ⟨_, rfl, a, _, _, rfl, s2 _ _ h1, rfl, _, d, ks, bl, rfl, hp.same s2, fun bd val2 hbd hb2 => ⟨bd, _, rfl, upd_same, trivial, fun od => ⟨bd, rfl, od, _, upd_same, ?_⟩⟩⟩
  have bp : bd ≠ p := fun e => by rw [e, upd_same] at hbd; cases hbd
  have s3 := s2.trans (same_upd (o := .frz od (.dK (kvL val2 ks))) hbd)
  rw [upd_upd]
  obtain ⟨G, hG⟩ : ∃ G, G = upd (upd H1 p (.dK [])) bd (.frz od (.dK (kvL val2 ks))) := ⟨_, rfl⟩
  have gp : G p = some (.dK []) := by rw [hG, upd_ne bp.symm, upd_same]
  have gb : G bd = some (.frz od (.dK (kvL val2 ks))) := by rw [hG, upd_same]
  have hb3 : BlksAt K G ks val2 bl := fun y hy => (hb2 y hy).same (by rw [hG]; exact same_upd hbd)
  rw [← hG] at s3 ⊢
  have hpn : H p = none := s1.free hp0
  have fin : ∀ H', SX p G H' → Same H H' := fun H' sx b o e => sx _ _ (s3 _ _ e) (ne_of_none e hpn)
  refine forK walk_items (fun i σ' H' => SX p G H' ∧ ∃ x y val', σ' = [some (.ref a), some (.str z), some (.str n), some (.ref p), x, y] ∧ H' p = some (.dK (kvL val' ((ks.take i).map fun y => if y = z then n else y))) ∧ BlksAt K H' ((ks.take i).map fun y => if y = z then n else y) val' (fun y => if y = n then bl z else bl y))
    ⟨.of (.refl _), none, none, val2, rfl, gp, fun y hy => nomatch hy⟩ (fun i σ H' _ e => e.1 _ _ gb bp) (fun i v σ H2 H3 hi e y => ?_) fun σ' H' e => ?_
  · obtain ⟨sx, x0, y0, val', rfl, hp2, hb4⟩ := e
    obtain ⟨T', k1, v1, rfl, hT, rfl, e1, e2⟩ := y
    rw [kvL_len] at hi
    have hk : ks[i]? = some ks[i] := List.getElem?_eq_getElem hi
    obtain ⟨w0, hw0⟩ : ∃ w0, w0 = ks[i] := ⟨_, rfl⟩
    rw [← hw0] at hk
    have hm : w0 ∈ ks := List.mem_of_getElem? hk
    simp only [kvL, List.getElem?_map, hk, Option.map_some, Option.some.injEq] at e1 e2
    subst e1 e2
    have ht : ks.take (i + 1) = ks.take i ++ [w0] := by rw [List.take_add_one, hk] <;> rfl
    have nr : (if w0 = z then n else w0) ∉ (ks.take i).map fun y => if y = z then n else y := fun h => by
      obtain ⟨y, hy, e⟩ := List.mem_map.mp h
      have := ren_inj nz (List.mem_of_mem_take hy) hm e
      subst this
      obtain ⟨k, hk1, hk2⟩ := List.mem_iff_getElem.mp hy
      rw [List.getElem_take] at hk2
      rw [List.length_take] at hk1
      obtain ⟨hi2, q2⟩ := List.getElem?_eq_some_iff.mp hk
      have := (List.getElem_inj h4.1.1).mp (hk2.trans q2.symm)
      omega
    simp only [rd, rd2, rd3, rd4, List.getElem?_cons_zero, List.getElem?_cons_succ, Option.some.injEq, exists_eq_left', exists_eq_left, exists_and_left, exists_and_right, List.cons.injEq, V.str.injEq, V.int.injEq, V.bl.injEq, V.ref.injEq, V.ty.injEq, and_true, true_and, List.set_cons_zero, List.set_cons_succ, exists_const, exists_false, reduceCtorEq, ↓reduceIte, exists_eq, exists_eq', and_self, cxK, wipe, List.map_cons, List.map_nil, List.length_cons, List.length_nil, Nat.zero_add, Nat.reduceAdd, Int.cast_ofNat_Int, Int.reduceEq, Int.reduceLE, Int.reduceLT, decide_eq_true_eq, decide_true, decide_false, Bool.true_eq_false, Bool.false_eq_true, Bool.not_true, Bool.not_false]
    refine ⟨_, .of upd_same, rfl, _, _, rfl, _, _, rfl, rfl, ?_⟩
    simp only [rd, rd2, rd3, rd4, List.getElem?_cons_zero, List.getElem?_cons_succ, Option.some.injEq, exists_eq_left', exists_eq_left, exists_and_left, exists_and_right, List.cons.injEq, V.str.injEq, V.int.injEq, V.bl.injEq, V.ref.injEq, V.ty.injEq, and_true, true_and, List.set_cons_zero, List.set_cons_succ, exists_const, exists_false, reduceCtorEq, ↓reduceIte, exists_eq, exists_eq', and_self, cxK, wipe, List.map_cons, List.map_nil, List.length_cons, List.length_nil, Nat.zero_add, Nat.reduceAdd, Int.cast_ofNat_Int, Int.reduceEq, Int.reduceLE, Int.reduceLT, decide_eq_true_eq, decide_true, decide_false, Bool.true_eq_false, Bool.false_eq_true, Bool.not_true, Bool.not_false, kV]
    have sT : Same H2 (upd H2 T' (.tup [.str w0, val2 w0])) := same_upd hT
    have hp2' := sT _ _ hp2
    have hbw : BlkAt K (upd H2 T' (.tup [.str w0, val2 w0])) (val2 w0) (bl w0) := ((hb3 w0 hm).sx sx (nt_dK gp)).same sT
    refine ⟨_, bl w0, _, _, rfl, hbw, fun H4 u s4 hu => ?_⟩
    have hp4 := s4 _ _ hp2'
    obtain ⟨r, hr0⟩ : ∃ r, r = if w0 = z then n else w0 := ⟨_, rfl⟩
    rw [← hr0] at nr
    have hbl : (if r = n then bl z else bl r) = bl w0 := by
      rw [hr0]
      by_cases e : w0 = z
      · rw [if_pos e, if_pos rfl, e]
      · have wn : w0 ≠ n := fun q => nz (q ▸ hm)
        rw [if_neg e, if_neg wn]
    have key : ∃ x, DPut H4 p (.str r) u x ∧ SX p G x ∧ ∃ v2, x p = some (.dK (kvL v2 ((ks.take (i + 1)).map fun y => if y = z then n else y))) ∧ BlksAt K x ((ks.take (i + 1)).map fun y => if y = z then n else y) v2 (fun y => if y = n then bl z else bl y) := by
      refine ⟨_, .inl ⟨_, Sum.inr r, hp4, rfl, ?_, rfl⟩, fun b o e nb => by rw [upd_ne nb]; exact s4 _ _ (sT _ _ (sx _ _ e nb)), fun y => if y = r then u else val' y, ?_, fun y hy => ?_⟩
      · rw [kvL_len, List.length_map, List.length_take, sizeLine_eq]; have := h4.1.2.2.1; omega
      · rw [upd_same, kvL_new _ _ nr, ht, List.map_append, List.map_cons, List.map_nil, ← hr0]
      · rw [ht, List.map_append, List.map_cons, List.map_nil, ← hr0] at hy
        by_cases e : y = r
        · show BlkAt K _ (if y = r then u else val' y) (if y = n then bl z else bl y)
          rw [if_pos e, e, hbl]
          exact hu.sx SX.upd (nt_dK hp4)
        · show BlkAt K _ (if y = r then u else val' y) (if y = n then bl z else bl y)
          rw [if_neg e]
          exact ((hb4 y ((List.mem_append.mp hy).resolve_right fun q => e (List.mem_singleton.mp q))).same (sT.trans s4)).sx SX.upd (nt_dK hp4)
    refine ⟨rfl, ?_⟩
    by_cases e : w0 = z
    · rw [if_pos e]
      rw [if_pos e] at hr0
      rw [hr0] at key
      exact key
    · rw [if_neg e]
      rw [if_neg e] at hr0
      rw [hr0] at key
      exact key
  · obtain ⟨sx, x0, y0, val', rfl, hp2, hb4⟩ := e
    rw [kvL_len, List.take_length] at hp2 hb4
    simp only [rd, rd2, rd3, rd4, List.getElem?_cons_zero, List.getElem?_cons_succ, Option.some.injEq, exists_eq_left', exists_eq_left, exists_and_left, exists_and_right, List.cons.injEq, V.str.injEq, V.int.injEq, V.bl.injEq, V.ref.injEq, V.ty.injEq, and_true, true_and, List.set_cons_zero, List.set_cons_succ, exists_const, exists_false, reduceCtorEq, ↓reduceIte, exists_eq, exists_eq', and_self, cxK, wipe, List.map_cons, List.map_nil, List.length_cons, List.length_nil, Nat.zero_add, Nat.reduceAdd, Int.cast_ofNat_Int, Int.reduceEq, Int.reduceLE, Int.reduceLT, decide_eq_true_eq, decide_true, decide_false, Bool.true_eq_false, Bool.false_eq_true, Bool.not_true, Bool.not_false]
    have s5 := fin _ sx
    refine ⟨⟨_, _, s5 _ _ h1⟩, _, d, ks, bl, rfl, hp.same s5, mkParts hp2 hb4 ?_ ?_ (fun y hy => ?_) h4.2.1 h4.2.2 fun H' p' s6 hp' => hq _ _ (s5.trans s6) hp'⟩
    · exact List.nodup_iff_pairwise_ne.mpr (List.pairwise_map.mpr ((List.nodup_iff_pairwise_ne.mp h4.1.1).imp_of_mem fun hx hy h e => h (ren_inj nz hx hy e)))
    · rw [List.length_map]; exact h4.1.2.2.1
    · obtain ⟨x, hx, rfl⟩ := List.mem_map.mp hy
      by_cases e : x = z
      · rw [if_pos e]; exact hn
      · rw [if_neg e]; exact h4.1.2.2.2 x hx
/-! changed -/
def sp_changed (K : PySem.W.Frag) : Sp := fun vs H Q E => ∃ p d ks bl v c, vs = [p, v] ∧ PartsAt K H p d ks bl ∧ CmAt K H v c ∧ c.ok ks ∧ (c.full ks → Full K H E) ∧ (¬ c.full ks → ∀ H' p', Same H H' → PartsAt K H' p' d (c.nk ks) (c.nb bl) → Q p' H')
abbrev sc_changedN : List Str := ["parts", "command", "name", "block", "new"]
theorem sc_changed : FnScope sc_changedN ["parts", "command"] (defScope (topS 91)) := ⟨rfl, rfl, rfl, by decide +kernel, rfl, by decide +kernel, by decide +kernel⟩
theorem r_changed {P : Program} {w : World} {K : PySem.W.Frag} {mg : Str → Option Value} {base : Heap} (T : Tx w K mg) : FnR P w K mg base (L2.CX P w) 9 (He.ga K "changed") (sp_changed K) := by
  refine mkR T.f_changed sc_changed (fun _ _ _ _ _ _ us hl => match us, hl with | [_, _], _ => rfl) (fun vs H Q E h => by obtain ⟨p, d, ks, bl, v, c, rfl, hp, hc, ho, hf, hq⟩ := h; rfl) (fun cdv A outer s H vs Q E hr h => ?_)
  obtain ⟨p, d, ks, bl, v, c, rfl, hp, hc, ho, hf, hq⟩ := h
  refine ⟨_, (pss_cons (ps_match (pv 1) (pm_seq3 (i := 2) (j := 3) rfl sc_changed.nd rfl rfl rfl rfl (pss_one (ps_ret (pe_f (r_defined (P := P) (w := w) (K := K) (base := base) T) T.g_defined T.f_defined.keep hr (passes_call (takes_of rfl rfl rfl rfl) (fun _ _ _ _ h => h)) (pa_cons (pv 0) (pa_cons (pv 2) (pa_cons (pv 3) pa_nil)))))) (pm_seq3 (i := 2) (j := 3) rfl sc_changed.nd rfl rfl rfl rfl (pss_one ps_never) (pm_seq3 (i := 2) (j := 4) rfl sc_changed.nd rfl rfl rfl rfl (pss_one (ps_ret (pe_f (r_renamed_part (P := P) (w := w) (K := K) (base := base) T) T.g_renamed_part T.f_renamed_part.keep hr passL (pa_cons (pv 0) (pa_cons (pv 2) (pa_cons (pv 4) pa_nil)))))) pm_nil)))) (pss_one (ps_ret (pe_f (r_dropped (P := P) (w := w) (K := K) (base := base) T) T.g_dropped T.f_dropped.keep hr passL (pa_cons (pv 0) (pa_cons (pe_ix (r := rIxT K) ix_tup (pv 1) (pe_int) (fun _ _ => rfl)) pa_nil)))))), ?_⟩
  refine start_of (σ := [some p, some v, none, none, none]) rfl ?_
  cases c with
  | dfn z b =>
    obtain ⟨a, u, rfl, ht, hb⟩ := hc
    refine ⟨_, rfl, _, _, rfl, ht, ?_⟩
    rw [if_pos (by simp)]
    refine ⟨_, _, _, rfl, ?_⟩
    rw [if_pos rfl]
    simp only [rd, rd2, rd3, rd4, List.getElem?_cons_zero, List.getElem?_cons_succ, Option.some.injEq, exists_eq_left', exists_eq_left, exists_and_left, exists_and_right, List.cons.injEq, V.str.injEq, V.int.injEq, V.bl.injEq, V.ref.injEq, V.ty.injEq, and_true, true_and, List.set_cons_zero, List.set_cons_succ, exists_const, exists_false, reduceCtorEq, ↓reduceIte, exists_eq, exists_eq', and_self, cxK, wipe, List.map_cons, List.map_nil, List.length_cons, List.length_nil, Nat.zero_add, Nat.reduceAdd, Int.cast_ofNat_Int, Int.reduceEq, Int.reduceLE, Int.reduceLT, decide_eq_true_eq, decide_true, decide_false, Bool.true_eq_false, Bool.false_eq_true, Bool.not_true, Bool.not_false]
    exact ⟨p, d, ks, bl, z, u, b, rfl, hp, ho.1, ho.2, hb, hf, hq⟩
  | drp z =>
    obtain ⟨a, rfl, ht⟩ := hc
    refine ⟨_, rfl, _, _, rfl, ht, ?_⟩
    rw [if_neg (by simp)]
    refine ⟨_, _, rfl, ht, ?_⟩
    rw [if_neg (by simp)]
    refine ⟨_, _, rfl, ht, ?_⟩
    rw [if_neg (by simp)]
    simp only [rd, rd2, rd3, rd4, List.getElem?_cons_zero, List.getElem?_cons_succ, Option.some.injEq, exists_eq_left', exists_eq_left, exists_and_left, exists_and_right, List.cons.injEq, V.str.injEq, V.int.injEq, V.bl.injEq, V.ref.injEq, V.ty.injEq, and_true, true_and, List.set_cons_zero, List.set_cons_succ, exists_const, exists_false, reduceCtorEq, ↓reduceIte, exists_eq, exists_eq', and_self, cxK, wipe, List.map_cons, List.map_nil, List.length_cons, List.length_nil, Nat.zero_add, Nat.reduceAdd, Int.cast_ofNat_Int, Int.reduceEq, Int.reduceLE, Int.reduceLT, decide_eq_true_eq, decide_true, decide_false, Bool.true_eq_false, Bool.false_eq_true, Bool.not_true, Bool.not_false]
    exact ⟨_, ht, _, rfl, p, d, ks, bl, z, rfl, hp, ho, hq fun q => q.elim⟩
  | ren z n =>
    obtain ⟨a, rfl, ht⟩ := hc
    refine ⟨_, rfl, _, _, rfl, ht, ?_⟩
    rw [if_pos (by simp)]
    refine ⟨_, _, _, rfl, ?_⟩
    rw [if_neg (by decide)]
    refine ⟨_, _, rfl, ht, ?_⟩
    rw [if_pos (by simp)]
    refine ⟨_, _, _, rfl, ?_⟩
    rw [if_neg (by decide)]
    refine ⟨_, _, rfl, ht, ?_⟩
    rw [if_pos (by simp)]
    refine ⟨_, _, _, rfl, ?_⟩
    rw [if_pos rfl]
    simp only [rd, rd2, rd3, rd4, List.getElem?_cons_zero, List.getElem?_cons_succ, Option.some.injEq, exists_eq_left', exists_eq_left, exists_and_left, exists_and_right, List.cons.injEq, V.str.injEq, V.int.injEq, V.bl.injEq, V.ref.injEq, V.ty.injEq, and_true, true_and, List.set_cons_zero, List.set_cons_succ, exists_const, exists_false, reduceCtorEq, ↓reduceIte, exists_eq, exists_eq', and_self, cxK, wipe, List.map_cons, List.map_nil, List.length_cons, List.length_nil, Nat.zero_add, Nat.reduceAdd, Int.cast_ofNat_Int, Int.reduceEq, Int.reduceLE, Int.reduceLT, decide_eq_true_eq, decide_true, decide_false, Bool.true_eq_false, Bool.false_eq_true, Bool.not_true, Bool.not_false]
    exact ⟨p, d, ks, bl, z, n, rfl, hp, ho.1, ho.2.1, ho.2.2, hq fun q => q.elim⟩
end Sf

/-! ### books -/
namespace Sf
open PySem PySem.Spec PyProof.Rows L2
abbrev KS : Type := List Str × (Str → Option Int)
def AllP (K : PySem.W.Frag) (H : Hp) (d : Int) : List V → List KS → Prop
  | [], [] => True
  | v :: vs, s :: ss => PartsAt K H v d s.1 s.2 ∧ AllP K H d vs ss
  | _, _ => False
def NP (H : Hp) (x : Addr) : Prop := NT H x ∧ (∀ kvs, H x ≠ some (.dK kvs)) ∧ ∀ C dx fs, H x = some (.ins C dx fs) → fs.lookup ("ground" : Str) = none
def SP (X : Addr → Prop) (H H' : Hp) : Prop := ∀ a o, H a = some o → ¬ X a → H' a = some o
abbrev S3 (b pl fl : Addr) : Hp → Hp → Prop := SP fun a => a = b ∨ a = pl ∨ a = fl
def BookAt (K : PySem.W.Frag) (H : Hp) (b pl fl : Addr) (d : Int) (s : KS) (ps fs : List KS) : Prop :=
  ∃ dx p kt kn ts qv gv, H b = some (.ins (He.ga K "Book") dx [("now", p), ("past", .ref pl), ("future", .ref fl), ("key", .ref kt)]) ∧ PartsAt K H p d s.1 s.2 ∧ H pl = some (.lst qv) ∧ AllP K H d qv ps ∧ H fl = some (.lst gv) ∧ AllP K H d gv fs ∧ pl ≠ fl ∧
    SqT K H kt [.int d, .ref kn] ∧ SqT K H kn ts ∧ ts.length = s.1.length
section
variable {K : PySem.W.Frag} {H H' H2 : Hp} {X : Addr → Prop} {p : V} {d : Int} {ks : List Str} {bl : Str → Option Int}
theorem SP.of (s : Same H H') : SP X H H' := fun b o e _ => s b o e
theorem SP.trans (a : SP X H H2) (b : SP X H2 H') : SP X H H' := fun c o e n => b c o (a c o e n) n
theorem SP.upd {x : Addr} {o : HO} (hx : X x) : SP X H (upd H x o) := fun b u e n => by rw [upd_ne fun q => n (by rw [q]; exact hx)]; exact e
theorem SX.sp {x : Addr} (hx : X x) (s : SX x H H') : SP X H H' := fun b o e n => s b o e fun q => n (q ▸ hx)
theorem SP.tup {a : Addr} {xs : List V} (s : SP X H H') (n : ∀ x, X x → NP H x) (h : SqT K H a xs) : SqT K H' a xs := by
  refine h.imp (fun r => ?_) id
  have hx : ¬ X a := fun e => (n a e).1 xs r
  exact r.imp (fun e => s _ _ e hx) fun ⟨o, e⟩ => ⟨o, s _ _ e hx⟩
theorem PutAt.sp {t : Addr} {k : Int} (s : SP X H H') (n : ∀ x, X x → NP H x) (h : PutAt K H t k) : PutAt K H' t k := ⟨s.tup n h.1, h.2⟩
theorem Sts.sp {b : Option Int} {ts : List V} (s : SP X H H') (n : ∀ x, X x → NP H x) (h : Sts K H b ts) : Sts K H' b ts := by
  cases b with
  | none => exact h
  | some k => obtain ⟨t, e, h⟩ := h; exact ⟨t, e, h.sp s n⟩
theorem BlkAt.sp {v : V} {b : Option Int} (s : SP X H H') (n : ∀ x, X x → NP H x) (h : BlkAt K H v b) : BlkAt K H' v b := by
  obtain ⟨a, ts, e, h1, h2⟩ := h
  exact ⟨a, ts, e, s.tup n h1, h2.sp s n⟩
theorem PartsAt.sp (s : SP X H H') (n : ∀ x, X x → NP H x) (h : PartsAt K H p d ks bl) : PartsAt K H' p d ks bl := by
  obtain ⟨a, dx, kd, kn, val, e, h1, h2, h3, h4⟩ := h
  exact ⟨a, dx, kd, kn, val, e, s _ _ h1 (fun q => nomatch (show some (V.int d) = none from (n a q).2.2 _ _ _ h1)), s _ _ h2 (fun q => (n kd q).2.1 _ h2), fun z hz => (h3 z hz).sp s n, h4⟩
theorem AllP.sp (s : SP X H H') (n : ∀ x, X x → NP H x) : ∀ {vs : List V} {ss : List KS}, AllP K H d vs ss → AllP K H' d vs ss
  | [], [], _ => trivial
  | v :: vs, z :: ss, h => ⟨h.1.sp s n, AllP.sp s n h.2⟩
  | [], _ :: _, h => h.elim
  | _ :: _, [], h => h.elim
theorem AllP.same (s : Same H H') {vs : List V} {ss : List KS} (h : AllP K H d vs ss) : AllP K H' d vs ss := AllP.sp (X := fun _ => False) (SP.of s) (fun _ q => q.elim) h
theorem AllP.len : ∀ {vs : List V} {ss : List KS}, AllP K H d vs ss → vs.length = ss.length
  | [], [], _ => rfl
  | v :: vs, z :: ss, h => congrArg (· + 1) (AllP.len h.2)
  | [], _ :: _, h => h.elim
  | _ :: _, [], h => h.elim
theorem AllP.snoc {v : V} {z : KS} (hp : PartsAt K H v d z.1 z.2) : ∀ {vs : List V} {ss : List KS}, AllP K H d vs ss → AllP K H d (vs ++ [v]) (ss ++ [z])
  | [], [], _ => ⟨hp, trivial⟩
  | w :: vs, y :: ss, h => ⟨h.1, AllP.snoc hp h.2⟩
  | [], _ :: _, h => h.elim
  | _ :: _, [], h => h.elim
theorem AllP.unsnoc {z : KS} : ∀ {vs : List V} {ss : List KS}, AllP K H d vs (ss ++ [z]) → ∃ ws v, vs = ws ++ [v] ∧ AllP K H d ws ss ∧ PartsAt K H v d z.1 z.2
  | [v], [], h => ⟨[], v, rfl, trivial, h.1⟩
  | [], [], h => h.elim
  | v :: w :: vs, [], h => h.2.elim
  | [], y :: ss, h => h.elim
  | v :: vs, y :: ss, h => by
    obtain ⟨ws, u, rfl, h1, h2⟩ := AllP.unsnoc h.2
    exact ⟨v :: ws, u, rfl, ⟨h.1, h1⟩, h2⟩
theorem np_lst {x : Addr} {ys : List V} (h : H x = some (.lst ys)) : NP H x := ⟨nt_lst h, (fun kvs e => by rw [h] at e; cases e), fun C dx fs e => by rw [h] at e; cases e⟩
theorem np_ins {x C dx : Addr} {fs : List (Str × V)} (h : H x = some (.ins C dx fs)) (hl : fs.lookup ("ground" : Str) = none) : NP H x := ⟨nt_ins h, (fun kvs e => by rw [h] at e; cases e), fun C dx fs e => by rw [h] at e; cases e; exact hl⟩
theorem BookAt.same {b pl fl : Addr} {s : KS} {ps fs : List KS} (e : Same H H') (h : BookAt K H b pl fl d s ps fs) : BookAt K H' b pl fl d s ps fs := by
  obtain ⟨dx, p, kt, kn, ts, qv, gv, h1, h2, h3, h4, h5, h6, h7, h8, h9, h10⟩ := h
  exact ⟨dx, p, kt, kn, ts, qv, gv, e _ _ h1, h2.same e, e _ _ h3, h4.same e, e _ _ h5, h6.same e, h7, same_tup e h8, same_tup e h9, h10⟩
theorem BookAt.np {b pl fl : Addr} {s : KS} {ps fs : List KS} (h : BookAt K H b pl fl d s ps fs) : ∀ x, (x = b ∨ x = pl ∨ x = fl) → NP H x := by
  obtain ⟨dx, p, kt, kn, ts, qv, gv, h1, h2, h3, h4, h5, h6, h7, h8, h9, h10⟩ := h
  rintro x (rfl | rfl | rfl)
  · exact np_ins h1 rfl
  · exact np_lst h3
  · exact np_lst h5
end
theorem ne_upd {H : Hp} {a x : Addr} {o : HO} (h : upd H a o x = none) : x ≠ a ∧ H x = none := by
  have e : x ≠ a := fun q => by rw [q, upd_same] at h; cases h
  exact ⟨e, by rw [upd_ne e] at h; exact h⟩
/-! Book.__init__ -/
def sp_Book__init_ (K : PySem.W.Frag) : Sp := fun vs H Q E => ∃ b dx d, vs = [.ref b, .int d] ∧ H b = some (.ins (He.ga K "Book") dx []) ∧ 1 ≤ d ∧ d ≤ 3 ∧ ∀ H' pl fl bl, SX b H H' → BookAt K H' b pl fl d ([], bl) [] [] → Q .non H'
abbrev sc_Book__init_N : List Str := ["self", "dimension"]
theorem sc_Book__init_ : FnScope sc_Book__init_N ["self", "dimension"] (defScope (clsS 92 0)) := ⟨rfl, rfl, rfl, by decide +kernel, rfl, by decide +kernel, by decide +kernel⟩
theorem r_Book__init_ {P : Program} {w : World} {K : PySem.W.Frag} {mg : Str → Option Value} {base : Heap} (T : Tx w K mg) : FnR P w K mg base (L2.CX P w) 8 (He.ma K (He.ga K "Book") "__init__") (sp_Book__init_ K) := by
  refine mkR T.f_Book__init_ sc_Book__init_ (fun _ _ _ _ _ _ us hl => match us, hl with | [_, _], _ => rfl) (fun vs H Q E h => by obtain ⟨b, dx, d, rfl, hx, d1, d3, hq⟩ := h; rfl) (fun cdv A outer s H vs Q E hr h => ?_)
  obtain ⟨b, dx, d, rfl, hx, d1, d3, hq⟩ := h
  refine ⟨_, (pss_cons (ps_fd T.c_Book T.a_Book_now (pv 0) (pe_mk T.m_Parts (r_Parts__init_ (P := P) (w := w) (K := K) (base := base) T) hr (by rfl) T.g_Parts passL (pa_cons (pv 1) (pa_cons (pe_dnewK) pa_nil)))) (pss_cons (ps_fd T.c_Book T.a_Book_past (pv 0) (pe_lst pa_nil)) (pss_cons (ps_fd T.c_Book T.a_Book_future (pv 0) (pe_lst pa_nil)) (pss_one (ps_fd T.c_Book T.a_Book_key (pv 0) (pe_tup (pa_cons (pv 1) (pa_cons (pe_tup pa_nil) pa_nil)))))))), ?_⟩
  refine start_of (σ := [some (.ref b), some (.int d)]) rfl ?_
  simp only [rd, rd2, rd3, rd4, List.getElem?_cons_zero, List.getElem?_cons_succ, Option.some.injEq, exists_eq_left', exists_eq_left, exists_and_left, exists_and_right, List.cons.injEq, V.str.injEq, V.int.injEq, V.bl.injEq, V.ref.injEq, V.ty.injEq, and_true, true_and, List.set_cons_zero, List.set_cons_succ, exists_const, exists_false, reduceCtorEq, ↓reduceIte, exists_eq, exists_eq', and_self, cxK, wipe, List.map_cons, List.map_nil, List.length_cons, List.length_nil, Nat.zero_add, Nat.reduceAdd, Int.cast_ofNat_Int, Int.reduceEq, Int.reduceLE, Int.reduceLT, decide_eq_true_eq, decide_true, decide_false, Bool.true_eq_false, Bool.false_eq_true, Bool.not_true, Bool.not_false]
  intro bd hbd n dd hn hdn ne
  have sm := same_made (C := He.ga K "Parts") hn hdn
  have s0 := same_upd (o := .dK []) hbd
  refine ⟨n, dd, d, bd, [], fun _ => .non, fun _ => none, rfl, upd_same, sm _ _ upd_same, (fun z hz => nomatch hz), .nil, Nat.zero_le _, (fun z hz => nomatch hz), d1, d3, fun H2 sx2 hp => ⟨rfl, ?_⟩⟩
  have s2 := s0.trans (same_sx hn sm sx2)
  have hb2 := s2 _ _ hx
  refine ⟨_, _, hb2, by simp, Nat.zero_le _, fun pl hpl => ?_⟩
  have npl := (ne_upd hpl).1
  refine ⟨_, _, same_upd hpl _ _ upd_same, (show (1 : Nat) < 1000 by decide), Nat.zero_le _, fun fl hfl => ?_⟩
  have nfl := (ne_upd hfl).1
  have nfp := (ne_upd (ne_upd hfl).2).1
  refine ⟨_, _, same_upd hfl _ _ upd_same, (show (2 : Nat) < 1000 by decide), Nat.zero_le _, fun kn hkn => ⟨by decide, fun kt hkt => ⟨_, _, same_upd hkt _ _ (same_upd hkn _ _ upd_same), (show (3 : Nat) < 1000 by decide), ?_⟩⟩⟩
  have e3 := (SX.of (x := b) (same_upd (o := .tup [.int d, .ref kn]) hkt)).trans (SX.upd (x := b) (o := .ins (He.ga K "Book") dx (putF "key" (.ref kt) (putF "future" (.ref fl) (putF "past" (.ref pl) (putF "now" (.ref n) []))))))
  have e2 := (SX.upd (x := b)).trans ((SX.of (same_upd (o := .tup []) hkn)).trans e3)
  have e1 := (SX.upd (x := b)).trans ((SX.of (same_upd (o := .lst []) hfl)).trans e2)
  have e0 := (SX.upd (x := b) (H := H2)).trans ((SX.of (same_upd (o := .lst []) hpl)).trans e1)
  have nkn := (ne_upd hkn).1
  have nkt := (ne_upd (ne_upd hkt).2).1
  refine hq _ pl fl (fun _ => none) ((SX.of s2).trans e0) ⟨dx, .ref n, kt, kn, [], [], [], ?_, hp.sp (e0.sp rfl) (fun x q => q ▸ np_ins hb2 rfl), e1 _ _ upd_same npl, trivial, e2 _ _ upd_same nfl, trivial, nfp.symm, .of ?_, .of (e3 _ _ upd_same nkn), rfl⟩
  · rw [upd_same] <;> rfl
  · rw [upd_ne nkt, upd_same]
/-! Book.__len__ -/
def sp_Book__len_ (K : PySem.W.Frag) : Sp := fun vs H Q E => ∃ b pl fl d s ps fs, vs = [.ref b] ∧ BookAt K H b pl fl d s ps fs ∧ Q (.int s.1.length) H
abbrev sc_Book__len_N : List Str := ["self"]
theorem sc_Book__len_ : FnScope sc_Book__len_N ["self"] (defScope (clsS 92 3)) := ⟨rfl, rfl, rfl, by decide +kernel, rfl, by decide +kernel, by decide +kernel⟩
theorem r_Book__len_ {P : Program} {w : World} {K : PySem.W.Frag} {mg : Str → Option Value} {base : Heap} (T : Tx w K mg) : FnR P w K mg base (L2.CX P w) 1 (He.ma K (He.ga K "Book") "__len__") (sp_Book__len_ K) := by
  refine mkR T.f_Book__len_ sc_Book__len_ (fun _ _ _ _ _ _ us hl => match us, hl with | [_], _ => rfl) (fun vs H Q E h => by obtain ⟨b, pl, fl, d, s, ps, fs, rfl, ⟨dx, p, kt, kn, ts, qv, gv, h1, h2, h3, h4, h5, h6, h7, h8, h9, h10⟩, hq⟩ := h; rfl) (fun cdv A outer s H vs Q E hr h => ?_)
  obtain ⟨b, pl, fl, d, s, ps, fs, rfl, ⟨dx, p, kt, kn, ts, qv, gv, h1, h2, h3, h4, h5, h6, h7, h8, h9, h10⟩, hq⟩ := h
  refine ⟨_, (pss_one (ps_ret (pe_callB (r := rLenS K) call_lenS (by rfl) T.n_len boot_len (pa_cons (pe_ix (r := rIxT K) ix_tup (pe_fd T.c_Book T.a_Book_key (pv 0)) (pe_int) (fun _ _ => rfl)) pa_nil)))), ?_⟩
  refine start_of (σ := [some (.ref b)]) rfl ?_
  simp only [rd, rd2, rd3, rd4, List.getElem?_cons_zero, List.getElem?_cons_succ, Option.some.injEq, exists_eq_left', exists_eq_left, exists_and_left, exists_and_right, List.cons.injEq, V.str.injEq, V.int.injEq, V.bl.injEq, V.ref.injEq, V.ty.injEq, and_true, true_and, List.set_cons_zero, List.set_cons_succ, exists_const, exists_false, reduceCtorEq, ↓reduceIte, exists_eq, exists_eq', and_self, cxK, wipe, List.map_cons, List.map_nil, List.length_cons, List.length_nil, Nat.zero_add, Nat.reduceAdd, Int.cast_ofNat_Int, Int.reduceEq, Int.reduceLE, Int.reduceLT, decide_eq_true_eq, decide_true, decide_false, Bool.true_eq_false, Bool.false_eq_true, Bool.not_true, Bool.not_false]
  refine ⟨_, _, h1, _, rfl, ?_⟩
  simp only [rd, rd2, rd3, rd4, List.getElem?_cons_zero, List.getElem?_cons_succ, Option.some.injEq, exists_eq_left', exists_eq_left, exists_and_left, exists_and_right, List.cons.injEq, V.str.injEq, V.int.injEq, V.bl.injEq, V.ref.injEq, V.ty.injEq, and_true, true_and, List.set_cons_zero, List.set_cons_succ, exists_const, exists_false, reduceCtorEq, ↓reduceIte, exists_eq, exists_eq', and_self, cxK, wipe, List.map_cons, List.map_nil, List.length_cons, List.length_nil, Nat.zero_add, Nat.reduceAdd, Int.cast_ofNat_Int, Int.reduceEq, Int.reduceLE, Int.reduceLT, decide_eq_true_eq, decide_true, decide_false, Bool.true_eq_false, Bool.false_eq_true, Bool.not_true, Bool.not_false]
  refine ⟨_, h8, _, rfl, ?_⟩
  simp only [rd, rd2, rd3, rd4, List.getElem?_cons_zero, List.getElem?_cons_succ, Option.some.injEq, exists_eq_left', exists_eq_left, exists_and_left, exists_and_right, List.cons.injEq, V.str.injEq, V.int.injEq, V.bl.injEq, V.ref.injEq, V.ty.injEq, and_true, true_and, List.set_cons_zero, List.set_cons_succ, exists_const, exists_false, reduceCtorEq, ↓reduceIte, exists_eq, exists_eq', and_self, cxK, wipe, List.map_cons, List.map_nil, List.length_cons, List.length_nil, Nat.zero_add, Nat.reduceAdd, Int.cast_ofNat_Int, Int.reduceEq, Int.reduceLE, Int.reduceLT, decide_eq_true_eq, decide_true, decide_false, Bool.true_eq_false, Bool.false_eq_true, Bool.not_true, Bool.not_false]
  refine ⟨_, .inr h9, ?_⟩
  rw [h10]
  exact hq
/-! Book.parts -/
def sp_Book_parts (K : PySem.W.Frag) : Sp := fun vs H Q E => ∃ b dx fs p, vs = [.ref b] ∧ H b = some (.ins (He.ga K "Book") dx fs) ∧ fs.lookup ("now" : Str) = some p ∧ Q p H
abbrev sc_Book_partsN : List Str := ["self"]
theorem sc_Book_parts : FnScope sc_Book_partsN ["self"] (defScope (clsS 92 5)) := ⟨rfl, rfl, rfl, by decide +kernel, rfl, by decide +kernel, by decide +kernel⟩
theorem r_Book_parts {P : Program} {w : World} {K : PySem.W.Frag} {mg : Str → Option Value} {base : Heap} (T : Tx w K mg) : FnR P w K mg base (L2.CX P w) 1 (He5.wf K (He.ga K "Book") "property" "parts") (sp_Book_parts K) := by
  refine mkR T.f_Book_parts sc_Book_parts (fun _ _ _ _ _ _ us hl => match us, hl with | [_], _ => rfl) (fun vs H Q E h => by obtain ⟨b, dx, fs, p, rfl, h1, h2, hq⟩ := h; rfl) (fun cdv A outer s H vs Q E hr h => ?_)
  obtain ⟨b, dx, fs, p, rfl, h1, h2, hq⟩ := h
  refine ⟨_, (pss_one (ps_ret (pe_fd T.c_Book T.a_Book_now (pv 0)))), ?_⟩
  refine start_of (σ := [some (.ref b)]) rfl ?_
  simp only [rd, rd2, rd3, rd4, List.getElem?_cons_zero, List.getElem?_cons_succ, Option.some.injEq, exists_eq_left', exists_eq_left, exists_and_left, exists_and_right, List.cons.injEq, V.str.injEq, V.int.injEq, V.bl.injEq, V.ref.injEq, V.ty.injEq, and_true, true_and, List.set_cons_zero, List.set_cons_succ, exists_const, exists_false, reduceCtorEq, ↓reduceIte, exists_eq, exists_eq', and_self, cxK, wipe, List.map_cons, List.map_nil, List.length_cons, List.length_nil, Nat.zero_add, Nat.reduceAdd, Int.cast_ofNat_Int, Int.reduceEq, Int.reduceLE, Int.reduceLT, decide_eq_true_eq, decide_true, decide_false, Bool.true_eq_false, Bool.false_eq_true, Bool.not_true, Bool.not_false]
  exact ⟨_, _, h1, _, h2, hq⟩
/-! Book.become -/
def sp_Book_become (K : PySem.W.Frag) : Sp := fun vs H Q E => ∃ b dx p0 v1 v2 v3 p d ks bl, vs = [.ref b, p] ∧ H b = some (.ins (He.ga K "Book") dx [("now", p0), ("past", v1), ("future", v2), ("key", v3)]) ∧ PartsAt K H p d ks bl ∧
  ∀ H' kt kn ts, SX b H H' → H' b = some (.ins (He.ga K "Book") dx [("now", p), ("past", v1), ("future", v2), ("key", .ref kt)]) → SqT K H' kt [.int d, .ref kn] → SqT K H' kn ts → ts.length = ks.length → Q .non H'
abbrev sc_Book_becomeN : List Str := ["self", "parts", "name"]
theorem sc_Book_become : FnScope sc_Book_becomeN ["self", "parts"] (defScope (clsS 92 6)) := ⟨rfl, rfl, rfl, by decide +kernel, rfl, by decide +kernel, by decide +kernel⟩
theorem r_Book_become {P : Program} {w : World} {K : PySem.W.Frag} {mg : Str → Option Value} {base : Heap} (T : Tx w K mg) : FnR P w K mg base (L2.CX P w) 3 (He.ma K (He.ga K "Book") "become") (sp_Book_become K) := by
  refine mkR T.f_Book_become sc_Book_become (fun _ _ _ _ _ _ us hl => match us, hl with | [_, _], _ => rfl) (fun vs H Q E h => by obtain ⟨b, dx, p0, v1, v2, v3, p, d, ks, bl, rfl, hb, hp, hq⟩ := h; rfl) (fun cdv A outer s H vs Q E hr h => ?_)
  obtain ⟨b, dx, p0, v1, v2, v3, p, d, ks, bl, rfl, hb, hp, hq⟩ := h
  obtain ⟨a, dx2, kd, kn, val, rfl, h1, h2, h3, h4⟩ := id hp
  refine ⟨_, (pss_cons (ps_fd T.c_Book T.a_Book_now (pv 0) (pv 1)) (pss_one (ps_fd T.c_Book T.a_Book_key (pv 0) (pe_tup (pa_cons (pe_pr (r_Parts_dimension (P := P) (w := w) (K := K) (base := base) T) T.c_Parts T.p_Parts_dimension hr (pv 1)) (pa_cons (pe_callTy (r := rTupOf K) call_tupS (by rfl) T.n_tuple (by decide +kernel) (pa_cons (pe_lc (own := [("name", 2)]) (g := gName 2) (tt := tYes) rfl sc_Book_become.nd (pi_list (pe_m0 (pv 1) (r_Parts_names (P := P) (w := w) (K := K) (base := base) T) T.c_Parts T.t_Parts_names hr passL)) (blkOk_by (N := sc_Book_becomeN) (sc := (defScope (clsS 92 6))) (by decide +kernel)) (fun _ _ _ _ _ => (pg_name (i := 2) sc_Book_become.nd rfl (Or.inl rfl))) (fun _ _ _ _ _ => pts_nil) (fun _ _ _ _ _ => (pe_tup (pa_cons (pv 2) (pa_cons (pe_m (pv 1) (r_Parts_block (P := P) (w := w) (K := K) (base := base) T) T.c_Parts T.t_Parts_block hr passL (pa_cons (pv 2) pa_nil)) pa_nil))))) pa_nil)) pa_nil)))))), ?_⟩
  refine start_of (σ := [some (.ref b), some (.ref a), none]) rfl ?_
  simp only [rd, rd2, rd3, rd4, List.getElem?_cons_zero, List.getElem?_cons_succ, Option.some.injEq, exists_eq_left', exists_eq_left, exists_and_left, exists_and_right, List.cons.injEq, V.str.injEq, V.int.injEq, V.bl.injEq, V.ref.injEq, V.ty.injEq, and_true, true_and, List.set_cons_zero, List.set_cons_succ, exists_const, exists_false, reduceCtorEq, ↓reduceIte, exists_eq, exists_eq', and_self, cxK, wipe, List.map_cons, List.map_nil, List.length_cons, List.length_nil, Nat.zero_add, Nat.reduceAdd, Int.cast_ofNat_Int, Int.reduceEq, Int.reduceLE, Int.reduceLT, decide_eq_true_eq, decide_true, decide_false, Bool.true_eq_false, Bool.false_eq_true, Bool.not_true, Bool.not_false]
  have np : ∀ x, x = b → NP H x := fun x q => q ▸ np_ins hb rfl
  have hp1 : ∀ o, PartsAt K (upd H b o) (.ref a) d ks bl := fun o => hp.sp (X := (· = b)) (SP.upd rfl) np
  have ab : a ≠ b := fun q => nomatch (show some (V.int d) = none from (np a q).2.2 _ _ _ h1)
  have a1 : ∀ o, upd H b o a = some (.ins (He.ga K "Parts") dx2 [("ground", .int d), ("kept", .ref kd), ("known", kn)]) := fun o => by rw [upd_ne ab]; exact h1
  refine ⟨_, _, hb, by simp, ⟨_, _, a1 _⟩, _, d, ks, bl, rfl, hp1 _, _, _, a1 _, rfl, _, d, ks, bl, rfl, hp1 _, fun l hl => ⟨l, rfl, ⟨_, .of upd_same⟩, ?_⟩⟩
  have s1 := same_upd (o := .lst (ks.map V.str)) hl
  refine lcN (walk_list (xs := ks.map V.str)) (by rw [List.length_map]; have := h4.1.2.2.1; omega) (fun _ => rfl) (fun H' s => .of (s _ _ upd_same)) (fun x H' R hx s hR => ?_) (fun D H' acc s e hl2 => ?_)
  · obtain ⟨z, hz, rfl⟩ := List.mem_map.mp hx
    have s2 := s1.trans s
    simp only [rd, rd2, rd3, rd4, List.getElem?_cons_zero, List.getElem?_cons_succ, Option.some.injEq, exists_eq_left', exists_eq_left, exists_and_left, exists_and_right, List.cons.injEq, V.str.injEq, V.int.injEq, V.bl.injEq, V.ref.injEq, V.ty.injEq, and_true, true_and, List.set_cons_zero, List.set_cons_succ, exists_const, exists_false, reduceCtorEq, ↓reduceIte, exists_eq, exists_eq', and_self, cxK, wipe, List.map_cons, List.map_nil, List.length_cons, List.length_nil, Nat.zero_add, Nat.reduceAdd, Int.cast_ofNat_Int, Int.reduceEq, Int.reduceLE, Int.reduceLT, decide_eq_true_eq, decide_true, decide_false, Bool.true_eq_false, Bool.false_eq_true, Bool.not_true, Bool.not_false]
    exact ⟨_, _, s2 _ _ (a1 _), rfl, _, d, ks, bl, z, rfl, (hp1 _).same s2, hz, fun u hu => ⟨by decide, fun p hp => hR _ _ (same_upd hp)⟩⟩
  · have s2 := s1.trans s
    simp only [rd, rd2, rd3, rd4, List.getElem?_cons_zero, List.getElem?_cons_succ, Option.some.injEq, exists_eq_left', exists_eq_left, exists_and_left, exists_and_right, List.cons.injEq, V.str.injEq, V.int.injEq, V.bl.injEq, V.ref.injEq, V.ty.injEq, and_true, true_and, List.set_cons_zero, List.set_cons_succ, exists_const, exists_false, reduceCtorEq, ↓reduceIte, exists_eq, exists_eq', and_self, cxK, wipe, List.map_cons, List.map_nil, List.length_cons, List.length_nil, Nat.zero_add, Nat.reduceAdd, Int.cast_ofNat_Int, Int.reduceEq, Int.reduceLE, Int.reduceLT, decide_eq_true_eq, decide_true, decide_false, Bool.true_eq_false, Bool.false_eq_true, Bool.not_true, Bool.not_false]
    refine ⟨_, .of e, fun kn' hkn => ⟨by decide, fun kt hkt => ⟨_, _, same_upd hkt _ _ (same_upd hkn _ _ (s2 _ _ upd_same)), by simp [putF], ?_⟩⟩⟩
    have nkt := (ne_upd hkt).1
    have bt : b ≠ kt := ne_of_none (same_upd hkn _ _ (s2 _ _ upd_same)) hkt
    have bn : b ≠ kn' := ne_of_none (s2 _ _ upd_same) hkn
    refine hq _ kt kn' acc ((SX.upd.trans (SX.of s2)).trans ((SX.of (same_upd hkn)).trans ((SX.of (same_upd hkt)).trans SX.upd))) (by rw [upd_same] <;> rfl) (.of ?_) (.of ?_) (by rw [hl2, List.length_map])
    · rw [upd_ne bt.symm, upd_same]
    · rw [upd_ne bn.symm, upd_ne nkt.symm, upd_same]
/-! Book.step -/
def sp_Book_step (K : PySem.W.Frag) : Sp := fun vs H Q E => ∃ b pl fl d s ps fs p s', vs = [.ref b, p] ∧ BookAt K H b pl fl d s ps fs ∧ PartsAt K H p d s'.1 s'.2 ∧ ps.length < 1000 ∧ ∀ H' fl', S3 b pl fl H H' → H fl' = none → BookAt K H' b pl fl' d s' (ps ++ [s]) [] → Q .non H'
abbrev sc_Book_stepN : List Str := ["self", "parts"]
theorem sc_Book_step : FnScope sc_Book_stepN ["self", "parts"] (defScope (clsS 92 7)) := ⟨rfl, rfl, rfl, by decide +kernel, rfl, by decide +kernel, by decide +kernel⟩
theorem r_Book_step {P : Program} {w : World} {K : PySem.W.Frag} {mg : Str → Option Value} {base : Heap} (T : Tx w K mg) : FnR P w K mg base (L2.CX P w) 4 (He.ma K (He.ga K "Book") "step") (sp_Book_step K) := by
  refine mkR T.f_Book_step sc_Book_step (fun _ _ _ _ _ _ us hl => match us, hl with | [_, _], _ => rfl) (fun vs H Q E h => by obtain ⟨b, pl, fl, d, s, ps, fs, p, s', rfl, ⟨dx, p0, kt, kn, ts, qv, gv, h1, h2, h3, h4, h5, h6, h7, h8, h9, h10⟩, hp, hl, hq⟩ := h; rfl) (fun cdv A outer s H vs Q E hr h => ?_)
  obtain ⟨b, pl, fl, d, s, ps, fs, p, s', rfl, ⟨dx, p0, kt, kn, ts, qv, gv, h1, h2, h3, h4, h5, h6, h7, h8, h9, h10⟩, hp, hl, hq⟩ := h
  refine ⟨_, (pss_cons (ps_expr (pe_bm PySem.F.plainAttrs_list PySem.F.slot_list_append PySem.F.type_list_append mt_append (pe_fd T.c_Book T.a_Book_past (pv 0)) (pa_cons (pe_fd T.c_Book T.a_Book_now (pv 0)) pa_nil))) (pss_cons (ps_fd T.c_Book T.a_Book_future (pv 0) (pe_lst pa_nil)) (pss_one (ps_expr (pe_m (pv 0) (r_Book_become (P := P) (w := w) (K := K) (base := base) T) T.c_Book T.t_Book_become hr passL (pa_cons (pv 1) pa_nil)))))), ?_⟩
  refine start_of (σ := [some (.ref b), some p]) rfl ?_
  simp only [rd, rd2, rd3, rd4, List.getElem?_cons_zero, List.getElem?_cons_succ, Option.some.injEq, exists_eq_left', exists_eq_left, exists_and_left, exists_and_right, List.cons.injEq, V.str.injEq, V.int.injEq, V.bl.injEq, V.ref.injEq, V.ty.injEq, and_true, true_and, List.set_cons_zero, List.set_cons_succ, exists_const, exists_false, reduceCtorEq, ↓reduceIte, exists_eq, exists_eq', and_self, cxK, wipe, List.map_cons, List.map_nil, List.length_cons, List.length_nil, Nat.zero_add, Nat.reduceAdd, Int.cast_ofNat_Int, Int.reduceEq, Int.reduceLE, Int.reduceLT, decide_eq_true_eq, decide_true, decide_false, Bool.true_eq_false, Bool.false_eq_true, Bool.not_true, Bool.not_false]
  have pb : pl ≠ b := ne_of h3 h1 (by intro z; cases z)
  have fb : fl ≠ b := ne_of h5 h1 (by intro z; cases z)
  refine ⟨_, _, h1, _, rfl, .inl ⟨rfl, _, .of h3⟩, _, _, h1, _, rfl, pl, qv, p0, rfl, rfl, h3, ?_, Nat.zero_le _, fun fl' hfl => ?_⟩
  · have := h4.len; rw [sizeLine_eq]; omega
  have nfp := (ne_upd hfl).1
  have nfH := (ne_upd hfl).2
  have hb1 : upd (upd H pl (.lst (qv ++ [p0]))) fl' (.lst []) b = some (.ins (He.ga K "Book") dx [("now", p0), ("past", .ref pl), ("future", .ref fl), ("key", .ref kt)]) := same_upd hfl _ _ (by rw [upd_ne pb.symm]; exact h1)
  have nfb : fl' ≠ b := fun q => by rw [q, h1] at nfH; cases nfH
  have np : ∀ x, (x = b ∨ x = pl ∨ x = fl) → NP H x := BookAt.np (ps := ps) (fs := fs) ⟨dx, p0, kt, kn, ts, qv, gv, h1, h2, h3, h4, h5, h6, h7, h8, h9, h10⟩
  refine ⟨_, _, hb1, by simp, _, _, upd_same, rfl, ?_⟩
  have e1 : S3 b pl fl H (upd (upd (upd H pl (.lst (qv ++ [p0]))) fl' (.lst [])) b (.ins (He.ga K "Book") dx (putF "future" (.ref fl') [("now", p0), ("past", .ref pl), ("future", .ref fl), ("key", .ref kt)]))) :=
    (SP.upd (.inr (.inl rfl))).trans ((SP.of (same_upd hfl)).trans (SP.upd (.inl rfl)))
  refine ⟨b, dx, p0, .ref pl, .ref fl', .ref kt, p, d, s'.1, s'.2, rfl, upd_same, hp.sp e1 np, fun H' kt' kn' ts' sx hb' t1 t2 t3 => ?_⟩
  have e2 : S3 b pl fl H H' := e1.trans (sx.sp (.inl rfl))
  refine hq H' fl' e2 nfH ⟨dx, p, kt', kn', ts', qv ++ [p0], [], hb', hp.sp e2 np, ?_, AllP.snoc (h2.sp e2 np) (h4.sp e2 np), ?_, trivial, nfp.symm, t1, t2, t3⟩
  · exact sx _ _ (by rw [upd_ne pb, upd_ne nfp.symm, upd_same]) pb
  · exact sx _ _ (by rw [upd_ne nfb, upd_same]) nfb
/-! Book.history -/
def sp_Book_history (K : PySem.W.Frag) : Sp := fun vs H Q E => ∃ b pl fl d s ps fs, vs = [.ref b] ∧ BookAt K H b pl fl d s ps fs ∧ ∀ t, H t = none → Q (.ref t) (upd H t (.tup [.int ps.length, .int fs.length]))
abbrev sc_Book_historyN : List Str := ["self"]
theorem sc_Book_history : FnScope sc_Book_historyN ["self"] (defScope (clsS 92 16)) := ⟨rfl, rfl, rfl, by decide +kernel, rfl, by decide +kernel, by decide +kernel⟩
theorem r_Book_history {P : Program} {w : World} {K : PySem.W.Frag} {mg : Str → Option Value} {base : Heap} (T : Tx w K mg) : FnR P w K mg base (L2.CX P w) 1 (He.ma K (He.ga K "Book") "history") (sp_Book_history K) := by
  refine mkR T.f_Book_history sc_Book_history (fun _ _ _ _ _ _ us hl => match us, hl with | [_], _ => rfl) (fun vs H Q E h => by obtain ⟨b, pl, fl, d, s, ps, fs, rfl, ⟨dx, p0, kt, kn, ts, qv, gv, h1, h2, h3, h4, h5, h6, h7, h8, h9, h10⟩, hq⟩ := h; rfl) (fun cdv A outer s H vs Q E hr h => ?_)
  obtain ⟨b, pl, fl, d, s, ps, fs, rfl, ⟨dx, p0, kt, kn, ts, qv, gv, h1, h2, h3, h4, h5, h6, h7, h8, h9, h10⟩, hq⟩ := h
  refine ⟨_, (pss_one (ps_ret (pe_tup (pa_cons (pe_callB (r := rLenS K) call_lenS (by rfl) T.n_len boot_len (pa_cons (pe_fd T.c_Book T.a_Book_past (pv 0)) pa_nil)) (pa_cons (pe_callB (r := rLenS K) call_lenS (by rfl) T.n_len boot_len (pa_cons (pe_fd T.c_Book T.a_Book_future (pv 0)) pa_nil)) pa_nil))))), ?_⟩
  refine start_of (σ := [some (.ref b)]) rfl ?_
  simp only [rd, rd2, rd3, rd4, List.getElem?_cons_zero, List.getElem?_cons_succ, Option.some.injEq, exists_eq_left', exists_eq_left, exists_and_left, exists_and_right, List.cons.injEq, V.str.injEq, V.int.injEq, V.bl.injEq, V.ref.injEq, V.ty.injEq, and_true, true_and, List.set_cons_zero, List.set_cons_succ, exists_const, exists_false, reduceCtorEq, ↓reduceIte, exists_eq, exists_eq', and_self, cxK, wipe, List.map_cons, List.map_nil, List.length_cons, List.length_nil, Nat.zero_add, Nat.reduceAdd, Int.cast_ofNat_Int, Int.reduceEq, Int.reduceLE, Int.reduceLT, decide_eq_true_eq, decide_true, decide_false, Bool.true_eq_false, Bool.false_eq_true, Bool.not_true, Bool.not_false]
  refine ⟨_, _, h1, _, rfl, ?_⟩
  simp only [rd, rd2, rd3, rd4, List.getElem?_cons_zero, List.getElem?_cons_succ, Option.some.injEq, exists_eq_left', exists_eq_left, exists_and_left, exists_and_right, List.cons.injEq, V.str.injEq, V.int.injEq, V.bl.injEq, V.ref.injEq, V.ty.injEq, and_true, true_and, List.set_cons_zero, List.set_cons_succ, exists_const, exists_false, reduceCtorEq, ↓reduceIte, exists_eq, exists_eq', and_self, cxK, wipe, List.map_cons, List.map_nil, List.length_cons, List.length_nil, Nat.zero_add, Nat.reduceAdd, Int.cast_ofNat_Int, Int.reduceEq, Int.reduceLE, Int.reduceLT, decide_eq_true_eq, decide_true, decide_false, Bool.true_eq_false, Bool.false_eq_true, Bool.not_true, Bool.not_false]
  refine ⟨_, .inl (.of h3), _, _, h1, _, rfl, ?_⟩
  simp only [rd, rd2, rd3, rd4, List.getElem?_cons_zero, List.getElem?_cons_succ, Option.some.injEq, exists_eq_left', exists_eq_left, exists_and_left, exists_and_right, List.cons.injEq, V.str.injEq, V.int.injEq, V.bl.injEq, V.ref.injEq, V.ty.injEq, and_true, true_and, List.set_cons_zero, List.set_cons_succ, exists_const, exists_false, reduceCtorEq, ↓reduceIte, exists_eq, exists_eq', and_self, cxK, wipe, List.map_cons, List.map_nil, List.length_cons, List.length_nil, Nat.zero_add, Nat.reduceAdd, Int.cast_ofNat_Int, Int.reduceEq, Int.reduceLE, Int.reduceLT, decide_eq_true_eq, decide_true, decide_false, Bool.true_eq_false, Bool.false_eq_true, Bool.not_true, Bool.not_false]
  refine ⟨_, .inl (.of h5), by decide, fun t ht => ?_⟩
  rw [h4.len, h6.len]
  exact hq t ht
/-! Book.undo -/
def sp_Book_undo (K : PySem.W.Frag) : Sp := fun vs H Q E => ∃ b pl fl d s ps fs s0, vs = [.ref b] ∧ BookAt K H b pl fl d s (ps ++ [s0]) fs ∧ fs.length < 1000 ∧ ∀ H', S3 b pl fl H H' → BookAt K H' b pl fl d s0 ps (fs ++ [s]) → Q .non H'
abbrev sc_Book_undoN : List Str := ["self"]
theorem sc_Book_undo : FnScope sc_Book_undoN ["self"] (defScope (clsS 92 14)) := ⟨rfl, rfl, rfl, by decide +kernel, rfl, by decide +kernel, by decide +kernel⟩
theorem r_Book_undo {P : Program} {w : World} {K : PySem.W.Frag} {mg : Str → Option Value} {base : Heap} (T : Tx w K mg) : FnR P w K mg base (L2.CX P w) 4 (He.ma K (He.ga K "Book") "undo") (sp_Book_undo K) := by
  refine mkR T.f_Book_undo sc_Book_undo (fun _ _ _ _ _ _ us hl => match us, hl with | [_], _ => rfl) (fun vs H Q E h => by obtain ⟨b, pl, fl, d, s, ps, fs, s0, rfl, ⟨dx, p0, kt, kn, ts, qv, gv, h1, h2, h3, h4, h5, h6, h7, h8, h9, h10⟩, hl, hq⟩ := h; rfl) (fun cdv A outer s H vs Q E hr h => ?_)
  obtain ⟨b, pl, fl, d, s, ps, fs, s0, rfl, ⟨dx, p0, kt, kn, ts, qv, gv, h1, h2, h3, h4, h5, h6, h7, h8, h9, h10⟩, hl, hq⟩ := h
  refine ⟨_, (pss_cons (ps_if (pt_cmpR (r := rEqL K) (op_eqLen hr.units0) (pe_fd T.c_Book T.a_Book_past (pv 0)) (pe_lst pa_nil) (nomark _)) (pss_one ps_never) pss_nil) (pss_cons (ps_expr (pe_bm PySem.F.plainAttrs_list PySem.F.slot_list_append PySem.F.type_list_append mt_append (pe_fd T.c_Book T.a_Book_future (pv 0)) (pa_cons (pe_fd T.c_Book T.a_Book_now (pv 0)) pa_nil))) (pss_one (ps_expr (pe_m (pv 0) (r_Book_become (P := P) (w := w) (K := K) (base := base) T) T.c_Book T.t_Book_become hr passL (pa_cons (pe_bm0 PySem.F.plainAttrs_list PySem.F.slot_list_pop PySem.F.type_list_pop mt_pop (pe_fd T.c_Book T.a_Book_past (pv 0))) pa_nil)))))), ?_⟩
  refine start_of (σ := [some (.ref b)]) rfl ?_
  simp only [rd, rd2, rd3, rd4, List.getElem?_cons_zero, List.getElem?_cons_succ, Option.some.injEq, exists_eq_left', exists_eq_left, exists_and_left, exists_and_right, List.cons.injEq, V.str.injEq, V.int.injEq, V.bl.injEq, V.ref.injEq, V.ty.injEq, and_true, true_and, List.set_cons_zero, List.set_cons_succ, exists_const, exists_false, reduceCtorEq, ↓reduceIte, exists_eq, exists_eq', and_self, cxK, wipe, List.map_cons, List.map_nil, List.length_cons, List.length_nil, Nat.zero_add, Nat.reduceAdd, Int.cast_ofNat_Int, Int.reduceEq, Int.reduceLE, Int.reduceLT, decide_eq_true_eq, decide_true, decide_false, Bool.true_eq_false, Bool.false_eq_true, Bool.not_true, Bool.not_false]
  obtain ⟨ws, v0, rfl, h4a, h4b⟩ := AllP.unsnoc h4
  have pb : pl ≠ b := ne_of h3 h1 (by intro z; cases z)
  have fb : fl ≠ b := ne_of h5 h1 (by intro z; cases z)
  have np : ∀ x, (x = b ∨ x = pl ∨ x = fl) → NP H x := BookAt.np (ps := ps ++ [s0]) (fs := fs) ⟨dx, p0, kt, kn, ts, ws ++ [v0], gv, h1, h2, h3, h4, h5, h6, h7, h8, h9, h10⟩
  refine ⟨_, _, h1, _, rfl, Nat.zero_le _, fun l hl => ?_⟩
  have s1 := same_upd (o := .lst []) hl
  refine ⟨pl, l, _, _, rfl, rfl, .of (s1 _ _ h3), .of upd_same, by simp, false, rfl, ?_⟩
  rw [if_neg Bool.false_ne_true]
  have lf : fl ≠ l := ne_of_none h5 hl
  have hb1 : upd (upd H l (.lst [])) fl (.lst (gv ++ [p0])) b = some (.ins (He.ga K "Book") dx [("now", p0), ("past", .ref pl), ("future", .ref fl), ("key", .ref kt)]) := by rw [upd_ne fb.symm]; exact s1 _ _ h1
  have hp1 : upd (upd H l (.lst [])) fl (.lst (gv ++ [p0])) pl = some (.lst (ws ++ [v0])) := by rw [upd_ne h7]; exact s1 _ _ h3
  refine ⟨_, _, s1 _ _ h1, _, rfl, .inl ⟨rfl, _, .of (s1 _ _ h5)⟩, _, _, s1 _ _ h1, _, rfl, fl, gv, p0, rfl, rfl, s1 _ _ h5, ?_, _, _, hb1, rfl, _, rfl, b, dx, _, _, rfl, hb1, rfl, .inl ⟨rfl, _, .of hp1⟩, pl, ws ++ [v0], v0, rfl, rfl, hp1, ?_, ?_⟩
  · have := h6.len; rw [sizeLine_eq]; omega
  · rw [List.length_append, List.length_singleton, Nat.add_sub_cancel, List.getElem?_append_right (Nat.le_refl _), Nat.sub_self] <;> rfl
  rw [List.dropLast_concat]
  have e1 : S3 b pl fl H (upd (upd (upd H l (.lst [])) fl (.lst (gv ++ [p0]))) pl (.lst ws)) := (SP.of s1).trans ((SP.upd (.inr (.inr rfl))).trans (SP.upd (.inr (.inl rfl))))
  refine ⟨b, dx, p0, .ref pl, .ref fl, .ref kt, v0, d, s0.1, s0.2, rfl, by rw [upd_ne pb.symm]; exact hb1, h4b.sp e1 np, fun H' kt' kn' ts' sx hb' t1 t2 t3 => ?_⟩
  have e2 : S3 b pl fl H H' := e1.trans (sx.sp (.inl rfl))
  refine hq H' e2 ⟨dx, v0, kt', kn', ts', ws, gv ++ [p0], hb', h4b.sp e2 np, sx _ _ upd_same pb, AllP.sp e2 np h4a, ?_, AllP.snoc (h2.sp e2 np) (AllP.sp e2 np h6), h7, t1, t2, t3⟩
  exact sx _ _ (by rw [upd_ne h7.symm, upd_same]) fb
/-! runs of commands -/
inductive Rn : List Cm → KS → Option KS → Prop where
  | nil (s : KS) : Rn [] s (some s)
  | full {c : Cm} {cs : List Cm} {s : KS} (h : c.ok s.1) (f : c.full s.1) : Rn (c :: cs) s none
  | step {c : Cm} {cs : List Cm} {s : KS} {r : Option KS} (h : c.ok s.1) (f : ¬ c.full s.1) (k : Rn cs (c.nk s.1, c.nb s.2) r) : Rn (c :: cs) s r
def CmsAt (K : PySem.W.Frag) (H : Hp) (vs : List V) (cs : List Cm) : Prop := vs.length = cs.length ∧ ∀ (i : Nat) (v : V) (c : Cm), vs[i]? = some v → cs[i]? = some c → CmAt K H v c
/-! Book.apply -/
def sp_Book_apply (K : PySem.W.Frag) : Sp := fun vs H Q E => ∃ b pl fl d s ps fs v c, vs = [.ref b, v] ∧ BookAt K H b pl fl d s ps fs ∧ ps.length < 1000 ∧ CmAt K H v c ∧ c.ok s.1 ∧ (c.full s.1 → Full K H E) ∧ (¬ c.full s.1 → ∀ H' fl', S3 b pl fl H H' → H fl' = none → BookAt K H' b pl fl' d (c.nk s.1, c.nb s.2) (ps ++ [s]) [] → Q .non H')
abbrev sc_Book_applyN : List Str := ["self", "command"]
theorem sc_Book_apply : FnScope sc_Book_applyN ["self", "command"] (defScope (clsS 92 8)) := ⟨rfl, rfl, rfl, by decide +kernel, rfl, by decide +kernel, by decide +kernel⟩
theorem r_Book_apply {P : Program} {w : World} {K : PySem.W.Frag} {mg : Str → Option Value} {base : Heap} (T : Tx w K mg) : FnR P w K mg base (L2.CX P w) 10 (He.ma K (He.ga K "Book") "apply") (sp_Book_apply K) := by
  refine mkR T.f_Book_apply sc_Book_apply (fun _ _ _ _ _ _ us hl => match us, hl with | [_, _], _ => rfl) (fun vs H Q E h => by obtain ⟨b, pl, fl, d, s, ps, fs, v, c, rfl, hB, hl, hc, ho, hf, hq⟩ := h; rfl) (fun cdv A outer s H vs Q E hr h => ?_)
  obtain ⟨b, pl, fl, d, s, ps, fs, v, c, rfl, hB, hl, hc, ho, hf, hq⟩ := h
  obtain ⟨dx, p, kt, kn, ts, qv, gv, h1, h2, h3, h4, h5, h6, h7, h8, h9, h10⟩ := id hB
  refine ⟨_, (pss_cons (ps_expr (pe_f (r_check_command (P := P) (w := w) (K := K) (base := base) T) T.g_check_command T.f_check_command.keep hr passL (pa_cons (pv 1) pa_nil))) (pss_one (ps_expr (pe_m (pv 0) (r_Book_step (P := P) (w := w) (K := K) (base := base) T) T.c_Book T.t_Book_step hr passL (pa_cons (pe_f (r_changed (P := P) (w := w) (K := K) (base := base) T) T.g_changed T.f_changed.keep hr (passes_call (takes_of rfl rfl rfl rfl) (fun _ _ _ _ h => h)) (pa_cons (pe_fd T.c_Book T.a_Book_now (pv 0)) (pa_cons (pv 1) pa_nil))) pa_nil))))), ?_⟩
  refine start_of (σ := [some (.ref b), some v]) rfl ?_
  simp only [rd, rd2, rd3, rd4, List.getElem?_cons_zero, List.getElem?_cons_succ, Option.some.injEq, exists_eq_left', exists_eq_left, exists_and_left, exists_and_right, List.cons.injEq, V.str.injEq, V.int.injEq, V.bl.injEq, V.ref.injEq, V.ty.injEq, and_true, true_and, List.set_cons_zero, List.set_cons_succ, exists_const, exists_false, reduceCtorEq, ↓reduceIte, exists_eq, exists_eq', and_self, cxK, wipe, List.map_cons, List.map_nil, List.length_cons, List.length_nil, Nat.zero_add, Nat.reduceAdd, Int.cast_ofNat_Int, Int.reduceEq, Int.reduceLE, Int.reduceLT, decide_eq_true_eq, decide_true, decide_false, Bool.true_eq_false, Bool.false_eq_true, Bool.not_true, Bool.not_false]
  exact ⟨v, c, rfl, hc, _, _, h1, rfl, _, _, h1, _, rfl, p, d, s.1, s.2, v, c, rfl, h2, hc, ho, hf, fun nf H1 p' s1 hp' => ⟨b, pl, fl, d, s, ps, fs, p', (c.nk s.1, c.nb s.2), rfl, hB.same s1, hp', hl, fun H' fl' e1 e2 e3 => hq nf H' fl' ((SP.of s1).trans e1) (s1.free e2) e3⟩⟩
/-! Book.apply_all -/
def sp_Book_apply_all (K : PySem.W.Frag) : Sp := fun vs H Q E => ∃ b pl fl d s ps fs l vs' cs r, vs = [.ref b, .ref l] ∧ BookAt K H b pl fl d s ps fs ∧ ps.length < 1000 ∧ SqL K H l vs' ∧ CmsAt K H vs' cs ∧ Rn cs s r ∧ (r = none → Full K H E) ∧ (∀ s', r = some s' → ∀ H' fl', S3 b pl fl H H' → H fl' = none → BookAt K H' b pl fl' d s' (ps ++ [s]) [] → Q .non H')
abbrev sc_Book_apply_allN : List Str := ["self", "commands", "command", "parts"]
theorem sc_Book_apply_all : FnScope sc_Book_apply_allN ["self", "commands"] (defScope (clsS 92 9)) := ⟨rfl, rfl, rfl, by decide +kernel, rfl, by decide +kernel, by decide +kernel⟩
theorem r_Book_apply_all {P : Program} {w : World} {K : PySem.W.Frag} {mg : Str → Option Value} {base : Heap} (T : Tx w K mg) : FnR P w K mg base (L2.CX P w) 10 (He.ma K (He.ga K "Book") "apply_all") (sp_Book_apply_all K) := by
  refine mkR T.f_Book_apply_all sc_Book_apply_all (fun _ _ _ _ _ _ us hl => match us, hl with | [_, _], _ => rfl) (fun vs H Q E h => by obtain ⟨b, pl, fl, d, s, ps, fs, l, vs', cs, r, rfl, hB, hl, hL, hc, hr0, hf, hq⟩ := h; rfl) (fun cdv A outer s H vs Q E hr h => ?_)
  obtain ⟨b, pl, fl, d, s, ps, fs, l, vs', cs, r, rfl, hB, hl, hL, hc, hr0, hf, hq⟩ := h
  obtain ⟨dx, p, kt, kn, ts, qv, gv, h1, h2, h3, h4, h5, h6, h7, h8, h9, h10⟩ := id hB
  refine ⟨_, (pss_cons (ps_for (passes_of rfl) rfl (pi_list (pv 1)) (pg_name (i := 2) sc_Book_apply_all.nd rfl (Or.inl rfl)) (pss_one (ps_expr (pe_f (r_check_command (P := P) (w := w) (K := K) (base := base) T) T.g_check_command T.f_check_command.keep hr passL (pa_cons (pv 2) pa_nil))))) (pss_cons (ps_set (i := 3) sc_Book_apply_all.nd rfl (Or.inl rfl) (pe_fd T.c_Book T.a_Book_now (pv 0))) (pss_cons (ps_for (passes_of rfl) rfl (pi_list (pv 1)) (pg_name (i := 2) sc_Book_apply_all.nd rfl (Or.inl rfl)) (pss_one (ps_set (i := 3) sc_Book_apply_all.nd rfl (Or.inl rfl) (pe_f (r_changed (P := P) (w := w) (K := K) (base := base) T) T.g_changed T.f_changed.keep hr (passes_call (takes_of rfl rfl rfl rfl) (fun _ _ _ _ h => h)) (pa_cons (pv 3) (pa_cons (pv 2) pa_nil)))))) (pss_one (ps_expr (pe_m (pv 0) (r_Book_step (P := P) (w := w) (K := K) (base := base) T) T.c_Book T.t_Book_step hr passL (pa_cons (pv 3) pa_nil))))))), ?_⟩
  refine start_of (σ := [some (.ref b), some (.ref l), none, none]) rfl ?_
  simp only [rd, rd2, rd3, rd4, List.getElem?_cons_zero, List.getElem?_cons_succ, Option.some.injEq, exists_eq_left', exists_eq_left, exists_and_left, exists_and_right, List.cons.injEq, V.str.injEq, V.int.injEq, V.bl.injEq, V.ref.injEq, V.ty.injEq, and_true, true_and, List.set_cons_zero, List.set_cons_succ, exists_const, exists_false, reduceCtorEq, ↓reduceIte, exists_eq, exists_eq', and_self, cxK, wipe, List.map_cons, List.map_nil, List.length_cons, List.length_nil, Nat.zero_add, Nat.reduceAdd, Int.cast_ofNat_Int, Int.reduceEq, Int.reduceLE, Int.reduceLT, decide_eq_true_eq, decide_true, decide_false, Bool.true_eq_false, Bool.false_eq_true, Bool.not_true, Bool.not_false]
  have hcm : ∀ (i : Nat) v, vs'[i]? = some v → ∃ c, cs[i]? = some c ∧ CmAt K H v c := fun i v hv => by
    obtain ⟨hi, _⟩ := List.getElem?_eq_some_iff.mp hv
    have hi2 : i < cs.length := by rw [← hc.1]; exact hi
    exact ⟨cs[i], List.getElem?_eq_getElem hi2, hc.2 i v _ hv (List.getElem?_eq_getElem hi2)⟩
  refine ⟨⟨_, hL⟩, ?_⟩
  refine forK (walk_list (xs := vs')) (fun i σ' H' => Same H H' ∧ ∃ x, σ' = [some (.ref b), some (.ref l), x, none]) ⟨.refl _, _, rfl⟩ (fun i σ H' _ e => e.1.seq hL) (fun i v σ H1 H2 hi e y => ?_) fun σ' H' e => ?_
  · obtain ⟨s1, x, rfl⟩ := e
    obtain ⟨rfl, hx⟩ := y
    obtain ⟨c, _, hcv⟩ := hcm i v hx
    simp only [rd, rd2, rd3, rd4, List.getElem?_cons_zero, List.getElem?_cons_succ, Option.some.injEq, exists_eq_left', exists_eq_left, exists_and_left, exists_and_right, List.cons.injEq, V.str.injEq, V.int.injEq, V.bl.injEq, V.ref.injEq, V.ty.injEq, and_true, true_and, List.set_cons_zero, List.set_cons_succ, exists_const, exists_false, reduceCtorEq, ↓reduceIte, exists_eq, exists_eq', and_self, cxK, wipe, List.map_cons, List.map_nil, List.length_cons, List.length_nil, Nat.zero_add, Nat.reduceAdd, Int.cast_ofNat_Int, Int.reduceEq, Int.reduceLE, Int.reduceLT, decide_eq_true_eq, decide_true, decide_false, Bool.true_eq_false, Bool.false_eq_true, Bool.not_true, Bool.not_false]
    exact ⟨v, c, rfl, hcv.same s1, s1⟩
  · obtain ⟨s1, x, rfl⟩ := e
    simp only [rd, rd2, rd3, rd4, List.getElem?_cons_zero, List.getElem?_cons_succ, Option.some.injEq, exists_eq_left', exists_eq_left, exists_and_left, exists_and_right, List.cons.injEq, V.str.injEq, V.int.injEq, V.bl.injEq, V.ref.injEq, V.ty.injEq, and_true, true_and, List.set_cons_zero, List.set_cons_succ, exists_const, exists_false, reduceCtorEq, ↓reduceIte, exists_eq, exists_eq', and_self, cxK, wipe, List.map_cons, List.map_nil, List.length_cons, List.length_nil, Nat.zero_add, Nat.reduceAdd, Int.cast_ofNat_Int, Int.reduceEq, Int.reduceLE, Int.reduceLT, decide_eq_true_eq, decide_true, decide_false, Bool.true_eq_false, Bool.false_eq_true, Bool.not_true, Bool.not_false]
    refine ⟨_, _, s1 _ _ h1, _, rfl, ⟨_, s1.seq hL⟩, ?_⟩
    refine forK (walk_list (xs := vs')) (fun i σ' H' => Same H H' ∧ ∃ x p z, σ' = [some (.ref b), some (.ref l), x, some p] ∧ PartsAt K H' p d z.1 z.2 ∧ Rn (cs.drop i) z r) ⟨s1, x, p, s, rfl, h2.same s1, hr0⟩ (fun i σ H' _ e => e.1.seq hL) (fun i v σ H1 H2 hi e y => ?_) fun σ' H' e => ?_
    · obtain ⟨s2, x, p, z, rfl, hp, hR⟩ := e
      obtain ⟨rfl, hx⟩ := y
      obtain ⟨c, hci, hcv⟩ := hcm i v hx
      have hd : cs.drop i = c :: cs.drop (i + 1) := by
        obtain ⟨hi2, e⟩ := List.getElem?_eq_some_iff.mp hci
        rw [List.drop_eq_getElem_cons hi2, e]
      rw [hd] at hR
      simp only [rd, rd2, rd3, rd4, List.getElem?_cons_zero, List.getElem?_cons_succ, Option.some.injEq, exists_eq_left', exists_eq_left, exists_and_left, exists_and_right, List.cons.injEq, V.str.injEq, V.int.injEq, V.bl.injEq, V.ref.injEq, V.ty.injEq, and_true, true_and, List.set_cons_zero, List.set_cons_succ, exists_const, exists_false, reduceCtorEq, ↓reduceIte, exists_eq, exists_eq', and_self, cxK, wipe, List.map_cons, List.map_nil, List.length_cons, List.length_nil, Nat.zero_add, Nat.reduceAdd, Int.cast_ofNat_Int, Int.reduceEq, Int.reduceLE, Int.reduceLT, decide_eq_true_eq, decide_true, decide_false, Bool.true_eq_false, Bool.false_eq_true, Bool.not_true, Bool.not_false]
      cases hR with
      | full h f => exact ⟨p, d, z.1, z.2, v, c, rfl, hp, hcv.same s2, h, fun _ => (hf rfl).same s2, fun nf => absurd f nf⟩
      | step h f k => exact ⟨p, d, z.1, z.2, v, c, rfl, hp, hcv.same s2, h, fun q => absurd q f, fun _ H3 p' s3 hp' => ⟨s2.trans s3, _, _, ⟨rfl, rfl⟩, _, hp', k⟩⟩
    · obtain ⟨s2, x, p', z, rfl, hp, hR⟩ := e
      rw [hc.1, List.drop_length] at hR
      cases hR
      simp only [rd, rd2, rd3, rd4, List.getElem?_cons_zero, List.getElem?_cons_succ, Option.some.injEq, exists_eq_left', exists_eq_left, exists_and_left, exists_and_right, List.cons.injEq, V.str.injEq, V.int.injEq, V.bl.injEq, V.ref.injEq, V.ty.injEq, and_true, true_and, List.set_cons_zero, List.set_cons_succ, exists_const, exists_false, reduceCtorEq, ↓reduceIte, exists_eq, exists_eq', and_self, cxK, wipe, List.map_cons, List.map_nil, List.length_cons, List.length_nil, Nat.zero_add, Nat.reduceAdd, Int.cast_ofNat_Int, Int.reduceEq, Int.reduceLE, Int.reduceLT, decide_eq_true_eq, decide_true, decide_false, Bool.true_eq_false, Bool.false_eq_true, Bool.not_true, Bool.not_false]
      exact ⟨_, _, s2 _ _ h1, rfl, b, pl, fl, d, s, ps, fs, p', z, rfl, hB.same s2, hp, hl, fun H3 fl' e1 e2 e3 => hq z rfl H3 fl' ((SP.of s2).trans e1) (s2.free e2) e3⟩
end Sf

/-! ### trails and effects, for one block of one statement -/
namespace Sf
open PySem PySem.Spec PyProof.Rows L2
def ZT (K : PySem.W.Frag) (H : Hp) (v : V) (d : Int) : Prop := ∃ a, v = .ref a ∧ SqT K H a (List.replicate d.toNat (.int 0))
def RowsAt (K : PySem.W.Frag) (H : Hp) (d : Int) (ts : List V) : Option Int → Prop
  | none => ts = []
  | some k => ∃ t o b e, ts = [.ref t] ∧ SqT K H t [.int k, o, .int b, .ref e] ∧ ZT K H o d ∧ SqT K H e []
def TrailAt (K : PySem.W.Frag) (H : Hp) (v : V) (d : Int) (k : Option Int) : Prop :=
  ∃ a dx n w r ts, v = .ref a ∧ H a = some (.ins (He.ga K "Trail") dx [("ground", .int d), ("length", .int n), ("way", w), ("rows", .ref r)]) ∧ ZT K H w d ∧ H r = some (.lst ts) ∧ RowsAt K H d ts k
def EffAt (K : PySem.W.Frag) (H : Hp) (v : V) (k : Int) : Prop :=
  ∃ a dx g w r t o e, v = .ref a ∧ H a = some (.ins (He.ga K "Effect") dx [("ground", g), ("way", w), ("rows", .ref r)]) ∧ H r = some (.lst [.ref t]) ∧ SqT K H t [.int k, o, .ref e] ∧ SqT K H e []
section
variable {K : PySem.W.Frag} {H H' : Hp}
theorem ZT.same {v : V} {d : Int} (s : Same H H') (h : ZT K H v d) : ZT K H' v d := by
  obtain ⟨a, e, h⟩ := h
  exact ⟨a, e, same_tup s h⟩
theorem ZT.sx {x : Addr} {v : V} {d : Int} (s : SX x H H') (n : NT H x) (h : ZT K H v d) : ZT K H' v d := by
  obtain ⟨a, e, h⟩ := h
  exact ⟨a, e, s.tup n h⟩
theorem RowsAt.same {d : Int} {ts : List V} {k : Option Int} (s : Same H H') (h : RowsAt K H d ts k) : RowsAt K H' d ts k := by
  cases k with
  | none => exact h
  | some k => obtain ⟨t, o, b, e, h1, h2, h3, h4⟩ := h; exact ⟨t, o, b, e, h1, same_tup s h2, h3.same s, same_tup s h4⟩
theorem TrailAt.same {v : V} {d : Int} {k : Option Int} (s : Same H H') (h : TrailAt K H v d k) : TrailAt K H' v d k := by
  obtain ⟨a, dx, n, w, r, ts, h1, h2, h3, h4, h5⟩ := h
  exact ⟨a, dx, n, w, r, ts, h1, s _ _ h2, h3.same s, s _ _ h4, h5.same s⟩
end
/-! origin -/
def sp_origin (K : PySem.W.Frag) : Sp := fun vs H Q E => ∃ d, vs = [.int d] ∧ 1 ≤ d ∧ d ≤ 3 ∧ ∀ H' v, Same H H' → ZT K H' v d → Q v H'
abbrev sc_originN : List Str := ["dimension"]
theorem sc_origin : FnScope sc_originN ["dimension"] (defScope (topS 28)) := ⟨rfl, rfl, rfl, by decide +kernel, rfl, by decide +kernel, by decide +kernel⟩
theorem r_origin {P : Program} {w : World} {K : PySem.W.Frag} {mg : Str → Option Value} {base : Heap} (T : Tx w K mg) : FnR P w K mg base (L2.CX P w) 1 (He.ga K "origin") (sp_origin K) := by
  refine mkR T.f_origin sc_origin (fun _ _ _ _ _ _ us hl => match us, hl with | [_], _ => rfl) (fun vs H Q E h => by obtain ⟨d, rfl, d1, d3, hq⟩ := h; rfl) (fun cdv A outer s H vs Q E hr h => ?_)
  obtain ⟨d, rfl, d1, d3, hq⟩ := h
  refine ⟨_, (pss_one (ps_ret (pe_op op_rep (pe_tup (pa_cons (pe_int) pa_nil)) (pv 0)))), ?_⟩
  refine start_of (σ := [some (.int d)]) rfl ?_
  simp only [rd, rd2, rd3, rd4, List.getElem?_cons_zero, List.getElem?_cons_succ, Option.some.injEq, exists_eq_left', exists_eq_left, exists_and_left, exists_and_right, List.cons.injEq, V.str.injEq, V.int.injEq, V.bl.injEq, V.ref.injEq, V.ty.injEq, and_true, true_and, List.set_cons_zero, List.set_cons_succ, exists_const, exists_false, reduceCtorEq, ↓reduceIte, exists_eq, exists_eq', and_self, cxK, wipe, List.map_cons, List.map_nil, List.length_cons, List.length_nil, Nat.zero_add, Nat.reduceAdd, Int.cast_ofNat_Int, Int.reduceEq, Int.reduceLE, Int.reduceLT, decide_eq_true_eq, decide_true, decide_false, Bool.true_eq_false, Bool.false_eq_true, Bool.not_true, Bool.not_false]
  refine ⟨by decide, fun p hp => ?_⟩
  by_cases e : d = 1
  · subst e
    exact .inr ⟨p, _, rfl, rfl, .of upd_same, hq _ _ (same_upd hp) ⟨p, rfl, .of upd_same⟩⟩
  · refine .inl ⟨p, d, _, rfl, rfl, .of upd_same, by simp, by omega, by omega, by decide, fun p2 h2 => hq _ _ ((same_upd hp).trans (same_upd h2)) ⟨p2, rfl, .of ?_⟩⟩
    rw [upd_same, List.flatten_replicate_singleton]
/-! add -/
def sp_add0 (K : PySem.W.Frag) : Sp := fun vs H Q E => ∃ a p b d, vs = [a, .ref p] ∧ SqT K H p [b] ∧ ZT K H a d ∧ ZT K H b d ∧ d ≤ 3 ∧ ∀ H' v, Same H H' → ZT K H' v d → Q v H'
def sp_add (K : PySem.W.Frag) : Sp := fun vs H Q E => ∃ a b d, vs = [a, b] ∧ ZT K H a d ∧ ZT K H b d ∧ d ≤ 3 ∧ ∀ H' v, Same H H' → ZT K H' v d → Q v H'
abbrev sc_addN : List Str := ["one", "others", "result", "other", "a", "b"]
theorem sc_add : FnScope sc_addN ["one", "others"] (defScope (topS 29)) := ⟨rfl, rfl, rfl, by decide +kernel, rfl, by decide +kernel, by decide +kernel⟩
theorem r_add {P : Program} {w : World} {K : PySem.W.Frag} {mg : Str → Option Value} {base : Heap} (T : Tx w K mg) : FnR P w K mg base (L2.CX P w) 1 (He.ga K "add") (sp_add K) := by
  refine (mkRs (ps := ["one"]) (pv := "others") (sp := sp_add0 K) T.f_add sc_add (fun kV doc pm an cdv ct => StX.bind_star1 (B := fun us => bindArgs (PySem.W.fnOf "add" "add" (defArgs (topS 29)) (defBody (topS 29)) (defScope (topS 29)) .none kV doc pm an cdv ct) ⟨us, []⟩) (fun _ => rfl) (fun _ _ _ => rfl)) (fun cdv A outer s H vs Q E hr h => ?_)).imp fun vs H Q E h => ?_
  · obtain ⟨a, p, b, d, rfl, hp, ha, hb, d3, hq⟩ := h
    refine ⟨_, (pss_cons (ps_set (i := 2) sc_add.nd rfl (Or.inl rfl) (pv 0)) (pss_cons (ps_for (passes_of rfl) rfl (pi_tup (pv 1)) (pg_name (i := 3) sc_add.nd rfl (Or.inl rfl)) (pss_one (ps_set (i := 2) sc_add.nd rfl (Or.inl rfl) (pe_callTy (r := rTupOf K) call_tupS (by rfl) T.n_tuple (by decide +kernel) (pa_cons (pe_lc (own := [("a", 4), ("b", 5)]) (tt := tYes) rfl sc_add.nd (RZ.pi_zipA (by rfl) T.n_zip (pa_cons (pv 2) (pa_cons (pv 3) pa_nil))) (blkOk_by (N := sc_addN) (sc := (defScope (topS 29))) (by decide +kernel)) (fun _ _ _ _ _ => (kpg (K := K) (n := 2) (pg_tup rfl (pgs_cons (pg_name (i := 4) sc_add.nd rfl (Or.inl rfl)) (pgs_cons (pg_name (i := 5) sc_add.nd rfl (Or.inl rfl)) pgs_nil))))) (fun _ _ _ _ _ => pts_nil) (fun _ _ _ _ _ => (pe_op op_add (pv 4) (pv 5)))) pa_nil))))) (pss_one (ps_ret (pv 2))))), ?_⟩
    refine start_of (σ := [some a, some (.ref p), none, none, none, none]) rfl ?_
    simp only [rd, rd2, rd3, rd4, List.getElem?_cons_zero, List.getElem?_cons_succ, Option.some.injEq, exists_eq_left', exists_eq_left, exists_and_left, exists_and_right, List.cons.injEq, V.str.injEq, V.int.injEq, V.bl.injEq, V.ref.injEq, V.ty.injEq, and_true, true_and, List.set_cons_zero, List.set_cons_succ, exists_const, exists_false, reduceCtorEq, ↓reduceIte, exists_eq, exists_eq', and_self, cxK, wipe, List.map_cons, List.map_nil, List.length_cons, List.length_nil, Nat.zero_add, Nat.reduceAdd, Int.cast_ofNat_Int, Int.reduceEq, Int.reduceLE, Int.reduceLT, decide_eq_true_eq, decide_true, decide_false, Bool.true_eq_false, Bool.false_eq_true, Bool.not_true, Bool.not_false]
    refine ⟨⟨_, hp⟩, ?_⟩
    refine forK (walk_tup (xs := [b])) (fun i σ' H' => Same H H' ∧ ∃ x y z u, σ' = [some a, some (.ref p), some x, y, z, u] ∧ ZT K H' x d) ⟨.refl _, _, _, _, _, rfl, ha⟩ (fun i σ H' _ e => same_tup e.1 hp) (fun i v σ H1 H2 hi e y => ?_) fun σ' H' e => ?_
    · obtain ⟨s1, x, y0, z0, u0, rfl, a0, rfl, hx⟩ := e
      obtain ⟨rfl, hv⟩ := y
      obtain rfl : i = 0 := by simpa using hi
      obtain rfl : b = v := Option.some.inj hv
      obtain ⟨b0, rfl, hb0⟩ := hb.same s1
      simp only [rd, rd2, rd3, rd4, List.getElem?_cons_zero, List.getElem?_cons_succ, Option.some.injEq, exists_eq_left', exists_eq_left, exists_and_left, exists_and_right, List.cons.injEq, V.str.injEq, V.int.injEq, V.bl.injEq, V.ref.injEq, V.ty.injEq, and_true, true_and, List.set_cons_zero, List.set_cons_succ, exists_const, exists_false, reduceCtorEq, ↓reduceIte, exists_eq, exists_eq', and_self, cxK, wipe, List.map_cons, List.map_nil, List.length_cons, List.length_nil, Nat.zero_add, Nat.reduceAdd, Int.cast_ofNat_Int, Int.reduceEq, Int.reduceLE, Int.reduceLT, decide_eq_true_eq, decide_true, decide_false, Bool.true_eq_false, Bool.false_eq_true, Bool.not_true, Bool.not_false]
      refine ⟨_, rfl, _, rfl, a0, b0, _, _, rfl, .inr ⟨hx, hb0, ?_⟩⟩
      have hdn : d.toNat ≤ 3 := by omega
      refine fun D hD => lc_it (walk_zipT (n := d.toNat) (xs := List.replicate d.toNat (.int 0)) (ys := List.replicate d.toNat (.int 0)) (by simp)) (Pv := fun i H' => Same H2 H' ∧ H' D = some (.lst (List.replicate i (.int 0)))) ⟨same_upd hD, upd_same⟩ (fun i H' _ e => ⟨same_tup e.1 hx, same_tup e.1 hb0⟩) (fun i y H3 H4 hi e hy => ?_) (fun H3 e => ?_)
      · obtain ⟨s3, e3⟩ := e
        obtain ⟨T', u, v, rfl, hT, rfl, e4, e5⟩ := hy
        simp only [List.getElem?_replicate, hi, ↓reduceIte, Option.some.injEq] at e4 e5
        subst e4 e5
        have sT := same_upd (o := .tup [.int 0, .int 0]) hT
        refine ⟨_, _, rfl, .of upd_same, rfl, _, _, rfl, _, _, rfl, rfl, rfl, ?_⟩
        simp only [rd, rd2, rd3, rd4, List.getElem?_cons_zero, List.getElem?_cons_succ, Option.some.injEq, exists_eq_left', exists_eq_left, exists_and_left, exists_and_right, List.cons.injEq, V.str.injEq, V.int.injEq, V.bl.injEq, V.ref.injEq, V.ty.injEq, and_true, true_and, List.set_cons_zero, List.set_cons_succ, exists_const, exists_false, reduceCtorEq, ↓reduceIte, exists_eq, exists_eq', and_self, cxK, wipe, List.map_cons, List.map_nil, List.length_cons, List.length_nil, Nat.zero_add, Nat.reduceAdd, Int.cast_ofNat_Int, Int.reduceEq, Int.reduceLE, Int.reduceLT, decide_eq_true_eq, decide_true, decide_false, Bool.true_eq_false, Bool.false_eq_true, Bool.not_true, Bool.not_false]
        refine ⟨_, sT _ _ e3, ?_, fun b o e => ?_, ?_⟩
        · rw [List.length_replicate, sizeLine_eq]; omega
        · rw [upd_ne (ne_of_none e hD)]; exact sT _ _ (s3 _ _ e)
        · rw [upd_same, List.replicate_succ', Int.add_zero]
      · simp only [rd, rd2, rd3, rd4, List.getElem?_cons_zero, List.getElem?_cons_succ, Option.some.injEq, exists_eq_left', exists_eq_left, exists_and_left, exists_and_right, List.cons.injEq, V.str.injEq, V.int.injEq, V.bl.injEq, V.ref.injEq, V.ty.injEq, and_true, true_and, List.set_cons_zero, List.set_cons_succ, exists_const, exists_false, reduceCtorEq, ↓reduceIte, exists_eq, exists_eq', and_self, cxK, wipe, List.map_cons, List.map_nil, List.length_cons, List.length_nil, Nat.zero_add, Nat.reduceAdd, Int.cast_ofNat_Int, Int.reduceEq, Int.reduceLE, Int.reduceLT, decide_eq_true_eq, decide_true, decide_false, Bool.true_eq_false, Bool.false_eq_true, Bool.not_true, Bool.not_false]
        refine ⟨_, .of e.2, fun l hl => ⟨s1.trans (e.1.trans (same_upd hl)), l, rfl, .of upd_same⟩⟩
    · obtain ⟨s1, x, y0, z0, u0, rfl, hx⟩ := e
      simp only [rd, rd2, rd3, rd4, List.getElem?_cons_zero, List.getElem?_cons_succ, Option.some.injEq, exists_eq_left', exists_eq_left, exists_and_left, exists_and_right, List.cons.injEq, V.str.injEq, V.int.injEq, V.bl.injEq, V.ref.injEq, V.ty.injEq, and_true, true_and, List.set_cons_zero, List.set_cons_succ, exists_const, exists_false, reduceCtorEq, ↓reduceIte, exists_eq, exists_eq', and_self, cxK, wipe, List.map_cons, List.map_nil, List.length_cons, List.length_nil, Nat.zero_add, Nat.reduceAdd, Int.cast_ofNat_Int, Int.reduceEq, Int.reduceLE, Int.reduceLT, decide_eq_true_eq, decide_true, decide_false, Bool.true_eq_false, Bool.false_eq_true, Bool.not_true, Bool.not_false]
      exact hq _ _ s1 hx
  · obtain ⟨a, b, d, rfl, ha, hb, d3, hq⟩ := h
    exact ⟨[a], [b], rfl, rfl, by rw [sizeLine_eq]; simp, fun p hp => ⟨a, p, b, d, rfl, .of upd_same, ha.same (same_upd hp), hb.same (same_upd hp), d3, fun H' v s h => hq _ _ ((same_upd hp).trans s) h⟩⟩
theorem lc0 {J : It} {G : Hp → Prop} {Y : Nat → Hp → V → Hp → Prop} (w : Walk J 0 G Y) {g : TG} {tt : TT} {te : TE} {vs : List Nat} {σ : L2.St} {H0 : Hp} {Q : VK} (hG : ∀ H', Same H0 H' → G H') (hq : ∀ D H', H0 D = none → Same H0 H' → H' D = some (.lst []) → Q (.ref D) H') : LcK J g tt te vs σ Q H0 := fun D hD =>
  lc_it w (Pv := fun _ H' => H' = upd H0 D (.lst [])) rfl (fun _ H' _ e => e ▸ hG _ (same_upd hD)) (fun i _ _ _ hi => absurd hi (Nat.not_lt_zero i)) fun H' e => e ▸ hq D _ hD (same_upd hD) upd_same
/-! product -/
def sp_product (K : PySem.W.Frag) : Sp := fun vs H Q E => ∃ l, vs = [.ref l] ∧ SqL K H l [] ∧ Q (.int 1) H
abbrev sc_productN : List Str := ["numbers", "result", "number"]
theorem sc_product : FnScope sc_productN ["numbers"] (defScope (topS 69)) := ⟨rfl, rfl, rfl, by decide +kernel, rfl, by decide +kernel, by decide +kernel⟩
theorem r_product {P : Program} {w : World} {K : PySem.W.Frag} {mg : Str → Option Value} {base : Heap} (T : Tx w K mg) : FnR P w K mg base (L2.CX P w) 1 (He.ga K "product") (sp_product K) := by
  refine mkR T.f_product sc_product (fun _ _ _ _ _ _ us hl => match us, hl with | [_], _ => rfl) (fun vs H Q E h => by obtain ⟨l, rfl, hl, hq⟩ := h; rfl) (fun cdv A outer s H vs Q E hr h => ?_)
  obtain ⟨l, rfl, hl, hq⟩ := h
  refine ⟨_, (pss_cons (ps_set (i := 1) sc_product.nd rfl (Or.inl rfl) (pe_int)) (pss_cons (ps_for (passes_of rfl) rfl (pi_list (pv 0)) (pg_name (i := 2) sc_product.nd rfl (Or.inl rfl)) (pss_one (ps_set (i := 1) sc_product.nd rfl (Or.inl rfl) (pe_op op_mul (pv 1) (pv 2))))) (pss_one (ps_ret (pv 1))))), ?_⟩
  refine start_of (σ := [some (.ref l), none, none]) rfl ?_
  simp only [rd, rd2, rd3, rd4, List.getElem?_cons_zero, List.getElem?_cons_succ, Option.some.injEq, exists_eq_left', exists_eq_left, exists_and_left, exists_and_right, List.cons.injEq, V.str.injEq, V.int.injEq, V.bl.injEq, V.ref.injEq, V.ty.injEq, and_true, true_and, List.set_cons_zero, List.set_cons_succ, exists_const, exists_false, reduceCtorEq, ↓reduceIte, exists_eq, exists_eq', and_self, cxK, wipe, List.map_cons, List.map_nil, List.length_cons, List.length_nil, Nat.zero_add, Nat.reduceAdd, Int.cast_ofNat_Int, Int.reduceEq, Int.reduceLE, Int.reduceLT, decide_eq_true_eq, decide_true, decide_false, Bool.true_eq_false, Bool.false_eq_true, Bool.not_true, Bool.not_false]
  refine ⟨⟨_, hl⟩, ?_⟩
  refine forK (walk_list (xs := [])) (fun i σ' H' => H' = H ∧ σ' = [some (.ref l), some (.int 1), none]) ⟨rfl, rfl⟩ (fun i σ H' _ e => e.1 ▸ hl) (fun i v σ H1 H2 hi => absurd hi (Nat.not_lt_zero _)) fun σ' H' e => ?_
  obtain ⟨rfl, rfl⟩ := e
  simp only [rd, rd2, rd3, rd4, List.getElem?_cons_zero, List.getElem?_cons_succ, Option.some.injEq, exists_eq_left', exists_eq_left, exists_and_left, exists_and_right, List.cons.injEq, V.str.injEq, V.int.injEq, V.bl.injEq, V.ref.injEq, V.ty.injEq, and_true, true_and, List.set_cons_zero, List.set_cons_succ, exists_const, exists_false, reduceCtorEq, ↓reduceIte, exists_eq, exists_eq', and_self, cxK, wipe, List.map_cons, List.map_nil, List.length_cons, List.length_nil, Nat.zero_add, Nat.reduceAdd, Int.cast_ofNat_Int, Int.reduceEq, Int.reduceLE, Int.reduceLT, decide_eq_true_eq, decide_true, decide_false, Bool.true_eq_false, Bool.false_eq_true, Bool.not_true, Bool.not_false]
  exact hq
/-! term_of -/
def sp_term_of (K : PySem.W.Frag) : Sp := fun vs H Q E => ∃ k pl l, vs = [k, pl, .ref l] ∧ SqL K H l [] ∧ ∀ H' t e, Same H H' → SqT K H' t [k, pl, .ref e] → SqT K H' e [] → Q (.ref t) H'
abbrev sc_term_ofN : List Str := ["number", "place", "loops", "kept", "stride", "times", "loop"]
theorem sc_term_of : FnScope sc_term_ofN ["number", "place", "loops"] (defScope (topS 71)) := ⟨rfl, rfl, rfl, by decide +kernel, rfl, by decide +kernel, by decide +kernel⟩
theorem r_term_of {P : Program} {w : World} {K : PySem.W.Frag} {mg : Str → Option Value} {base : Heap} (T : Tx w K mg) : FnR P w K mg base (L2.CX P w) 1 (He.ga K "term_of") (sp_term_of K) := by
  refine mkR T.f_term_of sc_term_of (fun _ _ _ _ _ _ us hl => match us, hl with | [_, _, _], _ => rfl) (fun vs H Q E h => by obtain ⟨k, pl, l, rfl, hl, hq⟩ := h; rfl) (fun cdv A outer s H vs Q E hr h => ?_)
  obtain ⟨k, pl, l, rfl, hl, hq⟩ := h
  refine ⟨_, (pss_cons (ps_set (i := 3) sc_term_of.nd rfl (Or.inl rfl) (pe_lst pa_nil)) (pss_cons (ps_for (passes_of rfl) rfl (pi_list (pv 2)) (kpg (K := K) (n := 2) (pg_tup rfl (pgs_cons (pg_name (i := 4) sc_term_of.nd rfl (Or.inl rfl)) (pgs_cons (pg_name (i := 5) sc_term_of.nd rfl (Or.inl rfl)) pgs_nil)))) (pss_one ps_never)) (pss_one (ps_ret (pe_tup (pa_cons (pv 0) (pa_cons (pv 1) (pa_cons (pe_callTy (r := rTupOf K) call_tupS (by rfl) T.n_tuple (by decide +kernel) (pa_cons (pv 3) pa_nil)) pa_nil)))))))), ?_⟩
  refine start_of (σ := [some k, some pl, some (.ref l), none, none, none, none]) rfl ?_
  simp only [rd, rd2, rd3, rd4, List.getElem?_cons_zero, List.getElem?_cons_succ, Option.some.injEq, exists_eq_left', exists_eq_left, exists_and_left, exists_and_right, List.cons.injEq, V.str.injEq, V.int.injEq, V.bl.injEq, V.ref.injEq, V.ty.injEq, and_true, true_and, List.set_cons_zero, List.set_cons_succ, exists_const, exists_false, reduceCtorEq, ↓reduceIte, exists_eq, exists_eq', and_self, cxK, wipe, List.map_cons, List.map_nil, List.length_cons, List.length_nil, Nat.zero_add, Nat.reduceAdd, Int.cast_ofNat_Int, Int.reduceEq, Int.reduceLE, Int.reduceLT, decide_eq_true_eq, decide_true, decide_false, Bool.true_eq_false, Bool.false_eq_true, Bool.not_true, Bool.not_false]
  refine ⟨Nat.zero_le _, fun p hp => ⟨⟨_, (same_upd hp).seq hl⟩, ?_⟩⟩
  refine forK (walk_list (xs := [])) (fun i σ' H' => H' = upd H p (.lst []) ∧ σ' = [some k, some pl, some (.ref l), some (.ref p), none, none, none]) ⟨rfl, rfl⟩ (fun i σ H' _ e => e.1 ▸ (same_upd hp).seq hl) (fun i v σ H1 H2 hi => absurd hi (Nat.not_lt_zero _)) fun σ' H' e => ?_
  obtain ⟨rfl, rfl⟩ := e
  simp only [rd, rd2, rd3, rd4, List.getElem?_cons_zero, List.getElem?_cons_succ, Option.some.injEq, exists_eq_left', exists_eq_left, exists_and_left, exists_and_right, List.cons.injEq, V.str.injEq, V.int.injEq, V.bl.injEq, V.ref.injEq, V.ty.injEq, and_true, true_and, List.set_cons_zero, List.set_cons_succ, exists_const, exists_false, reduceCtorEq, ↓reduceIte, exists_eq, exists_eq', and_self, cxK, wipe, List.map_cons, List.map_nil, List.length_cons, List.length_nil, Nat.zero_add, Nat.reduceAdd, Int.cast_ofNat_Int, Int.reduceEq, Int.reduceLE, Int.reduceLT, decide_eq_true_eq, decide_true, decide_false, Bool.true_eq_false, Bool.false_eq_true, Bool.not_true, Bool.not_false]
  refine ⟨_, .of upd_same, fun e he => ⟨by decide, fun t ht => ?_⟩⟩
  exact hq _ t e ((same_upd hp).trans ((same_upd he).trans (same_upd ht))) (.of upd_same) (same_tup (same_upd ht) (.of upd_same))
/-! Effect.__init__ -/
def sp_Effect__init_ (K : PySem.W.Frag) : Sp := fun vs H Q E => ∃ x dx g sh l t k o e, vs = [.ref x, g, sh, .ref l] ∧ H x = some (.ins (He.ga K "Effect") dx []) ∧ SqL K H l [.ref t] ∧ SqT K H t [.int k, o, .ref e] ∧ k ≠ 0 ∧ SqT K H e [] ∧ ∀ H', SX x H H' → EffAt K H' (.ref x) k → Q .non H'
abbrev sc_Effect__init_N : List Str := ["self", "dimension", "shift", "terms", "term"]
theorem sc_Effect__init_ : FnScope sc_Effect__init_N ["self", "dimension", "shift", "terms"] (defScope (clsS 73 0)) := ⟨rfl, rfl, rfl, by decide +kernel, rfl, by decide +kernel, by decide +kernel⟩
theorem r_Effect__init_ {P : Program} {w : World} {K : PySem.W.Frag} {mg : Str → Option Value} {base : Heap} (T : Tx w K mg) : FnR P w K mg base (L2.CX P w) 1 (He.ma K (He.ga K "Effect") "__init__") (sp_Effect__init_ K) := by
  refine mkR T.f_Effect__init_ sc_Effect__init_ (fun _ _ _ _ _ _ us hl => match us, hl with | [_, _, _, _], _ => rfl) (fun vs H Q E h => by obtain ⟨x, dx, g, sh, l, t, k, o, e, rfl, hx, hl, ht, hk, he, hq⟩ := h; rfl) (fun cdv A outer s H vs Q E hr h => ?_)
  obtain ⟨x, dx, g, sh, l, t, k, o, e, rfl, hx, hl, ht, hk, he, hq⟩ := h
  refine ⟨_, (pss_cons (ps_fd T.c_Effect T.a_Effect_ground (pv 0) (pv 1)) (pss_cons (ps_fd T.c_Effect T.a_Effect_way (pv 0) (pv 2)) (pss_one (ps_fd T.c_Effect T.a_Effect_rows (pv 0) (pe_lc (own := [("term", 4)]) (g := gName 4) rfl sc_Effect__init_.nd (pi_list (pv 3)) (blkOk_by (N := sc_Effect__init_N) (sc := (defScope (clsS 73 0))) (by decide +kernel)) (fun _ _ _ _ _ => (pg_name (i := 4) sc_Effect__init_.nd rfl (Or.inl rfl))) (fun _ _ _ _ _ => (pts_one (pt_cmpR op_ne (pe_ix (r := rIxT K) ix_tup (pv 4) (pe_int) (fun _ _ => rfl)) (pe_int) (nomark _)))) (fun _ _ _ _ _ => (pv 4))))))), ?_⟩
  refine start_of (σ := [some (.ref x), some g, some sh, some (.ref l), none]) rfl ?_
  simp only [rd, rd2, rd3, rd4, List.getElem?_cons_zero, List.getElem?_cons_succ, Option.some.injEq, exists_eq_left', exists_eq_left, exists_and_left, exists_and_right, List.cons.injEq, V.str.injEq, V.int.injEq, V.bl.injEq, V.ref.injEq, V.ty.injEq, and_true, true_and, List.set_cons_zero, List.set_cons_succ, exists_const, exists_false, reduceCtorEq, ↓reduceIte, exists_eq, exists_eq', and_self, cxK, wipe, List.map_cons, List.map_nil, List.length_cons, List.length_nil, Nat.zero_add, Nat.reduceAdd, Int.cast_ofNat_Int, Int.reduceEq, Int.reduceLE, Int.reduceLT, decide_eq_true_eq, decide_true, decide_false, Bool.true_eq_false, Bool.false_eq_true, Bool.not_true, Bool.not_false]
  refine ⟨_, _, hx, by decide, _, _, upd_same, (show (1 : Nat) < 1000 by decide), ?_⟩
  rw [upd_upd]
  have nx := nt_ins hx
  have hl2 : SqL K (upd H x (.ins (He.ga K "Effect") dx (putF "way" sh (putF "ground" g [])))) l [.ref t] := by
    refine hl.imp (fun r => ?_) id
    have hne : l ≠ x := fun e => by
      rcases r with r | ⟨o, r⟩ <;> (rw [e, hx] at r; cases r)
    exact r.imp (fun e => by rw [upd_ne hne]; exact e) fun ⟨o, e⟩ => ⟨o, by rw [upd_ne hne]; exact e⟩
  have ht2 := (SX.upd (o := .ins (He.ga K "Effect") dx (putF "way" sh (putF "ground" g [])))).tup nx ht
  refine ⟨⟨_, hl2⟩, ?_⟩
  refine lcG (walk_list (xs := [.ref t])) (fun _ => true) (fun v => v) (by simp) (fun _ => rfl) (fun H' s => s.seq hl2) (fun v H' R hv s hR => ?_) (fun v H' R hv _ s hR => ?_) fun D H' s e => ?_
  · obtain rfl := List.mem_singleton.mp hv
    simp only [rd, rd2, rd3, rd4, List.getElem?_cons_zero, List.getElem?_cons_succ, Option.some.injEq, exists_eq_left', exists_eq_left, exists_and_left, exists_and_right, List.cons.injEq, V.str.injEq, V.int.injEq, V.bl.injEq, V.ref.injEq, V.ty.injEq, and_true, true_and, List.set_cons_zero, List.set_cons_succ, exists_const, exists_false, reduceCtorEq, ↓reduceIte, exists_eq, exists_eq', and_self, cxK, wipe, List.map_cons, List.map_nil, List.length_cons, List.length_nil, Nat.zero_add, Nat.reduceAdd, Int.cast_ofNat_Int, Int.reduceEq, Int.reduceLE, Int.reduceLT, decide_eq_true_eq, decide_true, decide_false, Bool.true_eq_false, Bool.false_eq_true, Bool.not_true, Bool.not_false]
    refine ⟨_, same_tup s ht2, _, rfl, ?_⟩
    simp only [rd, rd2, rd3, rd4, List.getElem?_cons_zero, List.getElem?_cons_succ, Option.some.injEq, exists_eq_left', exists_eq_left, exists_and_left, exists_and_right, List.cons.injEq, V.str.injEq, V.int.injEq, V.bl.injEq, V.ref.injEq, V.ty.injEq, and_true, true_and, List.set_cons_zero, List.set_cons_succ, exists_const, exists_false, reduceCtorEq, ↓reduceIte, exists_eq, exists_eq', and_self, cxK, wipe, List.map_cons, List.map_nil, List.length_cons, List.length_nil, Nat.zero_add, Nat.reduceAdd, Int.cast_ofNat_Int, Int.reduceEq, Int.reduceLE, Int.reduceLT, decide_eq_true_eq, decide_true, decide_false, Bool.true_eq_false, Bool.false_eq_true, Bool.not_true, Bool.not_false]
    refine ⟨rfl, ?_⟩
    rw [decide_eq_false hk]
    exact hR _ (.refl _)
  · simp only [rd, rd2, rd3, rd4, List.getElem?_cons_zero, List.getElem?_cons_succ, Option.some.injEq, exists_eq_left', exists_eq_left, exists_and_left, exists_and_right, List.cons.injEq, V.str.injEq, V.int.injEq, V.bl.injEq, V.ref.injEq, V.ty.injEq, and_true, true_and, List.set_cons_zero, List.set_cons_succ, exists_const, exists_false, reduceCtorEq, ↓reduceIte, exists_eq, exists_eq', and_self, cxK, wipe, List.map_cons, List.map_nil, List.length_cons, List.length_nil, Nat.zero_add, Nat.reduceAdd, Int.cast_ofNat_Int, Int.reduceEq, Int.reduceLE, Int.reduceLT, decide_eq_true_eq, decide_true, decide_false, Bool.true_eq_false, Bool.false_eq_true, Bool.not_true, Bool.not_false]
    exact hR _ (.refl _)
  · have hx3 := s _ _ upd_same
    refine ⟨_, _, hx3, (show (2 : Nat) < 1000 by decide), hq _ (SX.upd.trans ((SX.of s).trans SX.upd)) ?_⟩
    have hD : D ≠ x := ne_of e hx3 (by intro z; cases z)
    have sx := SX.upd (x := x) (H := H') (o := .ins (He.ga K "Effect") dx (putF "rows" (.ref D) (putF "way" sh (putF "ground" g []))))
    refine ⟨x, dx, g, sh, D, t, o, _, rfl, by rw [upd_same] <;> rfl, by rw [upd_ne hD]; exact e, sx.tup (nt_ins hx3) (same_tup s ht2), sx.tup (nt_ins hx3) (same_tup s (SX.upd.tup nx he))⟩
/-! Effect.total -/
def sp_Effect_total (K : PySem.W.Frag) : Sp := fun vs H Q E => ∃ v k, vs = [v] ∧ EffAt K H v k ∧ k.natAbs < 1000 ∧ ∀ H', Same H H' → Q (.int k) H'
abbrev sc_Effect_totalN : List Str := ["self", "number", "place", "loops", "stride", "times"]
theorem sc_Effect_total : FnScope sc_Effect_totalN ["self"] (defScope (clsS 73 5)) := ⟨rfl, rfl, rfl, by decide +kernel, rfl, by decide +kernel, by decide +kernel⟩
theorem r_Effect_total {P : Program} {w : World} {K : PySem.W.Frag} {mg : Str → Option Value} {base : Heap} (T : Tx w K mg) : FnR P w K mg base (L2.CX P w) 2 (He5.wf K (He.ga K "Effect") "property" "total") (sp_Effect_total K) := by
  refine mkR T.f_Effect_total sc_Effect_total (fun _ _ _ _ _ _ us hl => match us, hl with | [_], _ => rfl) (fun vs H Q E h => by obtain ⟨v, k, rfl, ⟨a, dx, g, w0, r, t, o, e, rfl, h1, h2, h3, h4⟩, hk, hq⟩ := h; rfl) (fun cdv A outer s H vs Q E hr h => ?_)
  obtain ⟨v, k, rfl, ⟨a, dx, g, w0, r, t, o, e, rfl, h1, h2, h3, h4⟩, hk, hq⟩ := h
  refine ⟨_, (pss_one (ps_ret (pe_callB (r := rSum K) (cr_sum rfl) (by rfl) T.n_sum (by decide +kernel) (pa_cons (pe_lc (own := [("number", 1), ("place", 2), ("loops", 3)]) (tt := tYes) rfl sc_Effect_total.nd (pi_list (pe_fd T.c_Effect T.a_Effect_rows (pv 0))) (blkOk_by (N := sc_Effect_totalN) (sc := (defScope (clsS 73 5))) (by decide +kernel)) (fun _ _ _ _ _ => (kpg (K := K) (n := 3) (pg_tup rfl (pgs_cons (pg_name (i := 1) sc_Effect_total.nd rfl (Or.inl rfl)) (pgs_cons (pg_name (i := 2) sc_Effect_total.nd rfl (Or.inl rfl)) (pgs_cons (pg_name (i := 3) sc_Effect_total.nd rfl (Or.inl rfl)) pgs_nil)))))) (fun _ _ _ _ _ => pts_nil) (fun _ _ _ _ _ => (pe_op op_mul (pv 1) (pe_f (r_product (P := P) (w := w) (K := K) (base := base) T) T.g_product T.f_product.keep hr passL (pa_cons (pe_lc (own := [("stride", 4), ("times", 5)]) (tt := tYes) rfl sc_Effect_total.nd (kpiT (K := K) (pi_tup (pv 3))) (blkOk_by (N := sc_Effect_totalN) (sc := { kind := .function, names := [(".0", .local), ("number", .local), ("place", .local), ("loops", .local), ("product", .globalImplicit)], isGenerator := false, isCoroutine := false }) (by decide +kernel)) (fun _ _ _ _ _ => (kpg (K := K) (n := 2) (pg_tup rfl (pgs_cons (pg_name (i := 4) sc_Effect_total.nd rfl (Or.inl rfl)) (pgs_cons (pg_name (i := 5) sc_Effect_total.nd rfl (Or.inl rfl)) pgs_nil))))) (fun _ _ _ _ _ => pts_nil) (fun _ _ _ _ _ => (pv 5))) pa_nil))))) pa_nil)))), ?_⟩
  refine start_of (σ := [some (.ref a), none, none, none, none, none]) rfl ?_
  simp only [rd, rd2, rd3, rd4, List.getElem?_cons_zero, List.getElem?_cons_succ, Option.some.injEq, exists_eq_left', exists_eq_left, exists_and_left, exists_and_right, List.cons.injEq, V.str.injEq, V.int.injEq, V.bl.injEq, V.ref.injEq, V.ty.injEq, and_true, true_and, List.set_cons_zero, List.set_cons_succ, exists_const, exists_false, reduceCtorEq, ↓reduceIte, exists_eq, exists_eq', and_self, cxK, wipe, List.map_cons, List.map_nil, List.length_cons, List.length_nil, Nat.zero_add, Nat.reduceAdd, Int.cast_ofNat_Int, Int.reduceEq, Int.reduceLE, Int.reduceLT, decide_eq_true_eq, decide_true, decide_false, Bool.true_eq_false, Bool.false_eq_true, Bool.not_true, Bool.not_false]
  refine ⟨_, _, h1, _, rfl, r, rfl, ⟨_, .of h2⟩, ?_⟩
  refine lc1 (walk_list (xs := [.ref t])) (fun H' s => s.seq (.of h2)) fun D hD => ?_
  have s0 := same_upd (o := .lst []) hD
  refine ⟨t, _, rfl, same_tup s0 h3, rfl, _, _, rfl, _, _, rfl, _, _, rfl, rfl, rfl, ?_⟩
  simp only [rd, rd2, rd3, rd4, List.getElem?_cons_zero, List.getElem?_cons_succ, Option.some.injEq, exists_eq_left', exists_eq_left, exists_and_left, exists_and_right, List.cons.injEq, V.str.injEq, V.int.injEq, V.bl.injEq, V.ref.injEq, V.ty.injEq, and_true, true_and, List.set_cons_zero, List.set_cons_succ, exists_const, exists_false, reduceCtorEq, ↓reduceIte, exists_eq, exists_eq', and_self, cxK, wipe, List.map_cons, List.map_nil, List.length_cons, List.length_nil, Nat.zero_add, Nat.reduceAdd, Int.cast_ofNat_Int, Int.reduceEq, Int.reduceLE, Int.reduceLT, decide_eq_true_eq, decide_true, decide_false, Bool.true_eq_false, Bool.false_eq_true, Bool.not_true, Bool.not_false]
  refine ⟨⟨_, same_tup s0 h4⟩, ?_⟩
  refine lc0 (walk_tup (xs := [])) (fun H' s => same_tup s (same_tup s0 h4)) fun D2 H2 hD2 s2 e2 => ?_
  refine ⟨D2, rfl, .of e2, 1, rfl, .inl ⟨by omega, by omega⟩, [], s2 _ _ upd_same, by decide, ?_, ?_⟩
  · intro b o' e'
    rw [upd_ne (ne_of_none e' hD)]
    exact s2 _ _ (s0 _ _ e')
  · refine ⟨[k], .of (by rw [upd_same, Int.mul_one] <;> rfl), ?_⟩
    rw [List.sum_singleton]
    refine hq _ fun b o' e' => ?_
    rw [upd_ne (ne_of_none e' hD)]
    exact s2 _ _ (s0 _ _ e')
/-! Trail.__init__ -/
def sp_Trail__init_ (K : PySem.W.Frag) : Sp := fun vs H Q E => ∃ x dx g n w r, vs = [.ref x, g, n, w, r] ∧ H x = some (.ins (He.ga K "Trail") dx []) ∧ ∀ H', SX x H H' → H' x = some (.ins (He.ga K "Trail") dx [("ground", g), ("length", n), ("way", w), ("rows", r)]) → Q .non H'
abbrev sc_Trail__init_N : List Str := ["self", "dimension", "beats", "shift", "strewings"]
theorem sc_Trail__init_ : FnScope sc_Trail__init_N ["self", "dimension", "beats", "shift", "strewings"] (defScope (clsS 78 0)) := ⟨rfl, rfl, rfl, by decide +kernel, rfl, by decide +kernel, by decide +kernel⟩
theorem r_Trail__init_ {P : Program} {w : World} {K : PySem.W.Frag} {mg : Str → Option Value} {base : Heap} (T : Tx w K mg) : FnR P w K mg base (L2.CX P w) 1 (He.ma K (He.ga K "Trail") "__init__") (sp_Trail__init_ K) := by
  refine mkR T.f_Trail__init_ sc_Trail__init_ (fun _ _ _ _ _ _ us hl => match us, hl with | [_, _, _, _, _], _ => rfl) (fun vs H Q E h => by obtain ⟨x, dx, g, n, w0, r, rfl, hx, hq⟩ := h; rfl) (fun cdv A outer s H vs Q E hr h => ?_)
  obtain ⟨x, dx, g, n, w0, r, rfl, hx, hq⟩ := h
  refine ⟨_, (pss_cons (ps_fd T.c_Trail T.a_Trail_ground (pv 0) (pv 1)) (pss_cons (ps_fd T.c_Trail T.a_Trail_length (pv 0) (pv 2)) (pss_cons (ps_fd T.c_Trail T.a_Trail_way (pv 0) (pv 3)) (pss_one (ps_fd T.c_Trail T.a_Trail_rows (pv 0) (pv 4)))))), ?_⟩
  refine start_of (σ := [some (.ref x), some g, some n, some w0, some r]) rfl ?_
  simp only [rd, rd2, rd3, rd4, List.getElem?_cons_zero, List.getElem?_cons_succ, Option.some.injEq, exists_eq_left', exists_eq_left, exists_and_left, exists_and_right, List.cons.injEq, V.str.injEq, V.int.injEq, V.bl.injEq, V.ref.injEq, V.ty.injEq, and_true, true_and, List.set_cons_zero, List.set_cons_succ, exists_const, exists_false, reduceCtorEq, ↓reduceIte, exists_eq, exists_eq', and_self, cxK, wipe, List.map_cons, List.map_nil, List.length_cons, List.length_nil, Nat.zero_add, Nat.reduceAdd, Int.cast_ofNat_Int, Int.reduceEq, Int.reduceLE, Int.reduceLT, decide_eq_true_eq, decide_true, decide_false, Bool.true_eq_false, Bool.false_eq_true, Bool.not_true, Bool.not_false]
  refine ⟨_, _, hx, by decide, _, _, upd_same, (show (1 : Nat) < 1000 by decide), _, _, upd_same, (show (2 : Nat) < 1000 by decide), _, _, upd_same, (show (3 : Nat) < 1000 by decide), ?_⟩
  rw [upd_upd, upd_upd, upd_upd]
  exact hq _ SX.upd (by rw [upd_same] <;> rfl)
theorem mkTrail {K : PySem.W.Frag} {H : Hp} {g n w r : V} {Q : VK} (hq : ∀ H' x dx, Same H H' → H' x = some (.ins (He.ga K "Trail") dx [("ground", g), ("length", n), ("way", w), ("rows", r)]) → Q (.ref x) H') :
    ∀ n' d', H n' = none → H d' = none → d' ≠ n' → sp_Trail__init_ K [.ref n', g, n, w, r] (upd (upd H d' (.own n')) n' (.ins (He.ga K "Trail") d' [])) (fun v H2 => v = .non ∧ Q (.ref n') H2) E0 := fun n' d' h1 h2 h3 =>
  ⟨n', d', g, n, w, r, rfl, upd_same, fun H' sx hx => ⟨rfl, hq _ _ _ (same_sx h1 (same_made h1 h2) sx) hx⟩⟩
/-! Trail.still -/
def sp_Trail_still (K : PySem.W.Frag) : Sp := fun vs H Q E => ∃ d, vs = [.int d] ∧ 1 ≤ d ∧ d ≤ 3 ∧ ∀ H' v, Same H H' → TrailAt K H' v d none → Q v H'
abbrev sc_Trail_stillN : List Str := ["dimension"]
theorem sc_Trail_still : FnScope sc_Trail_stillN ["dimension"] (defScope (clsS 78 1)) := ⟨rfl, rfl, rfl, by decide +kernel, rfl, by decide +kernel, by decide +kernel⟩
theorem r_Trail_still {P : Program} {w : World} {K : PySem.W.Frag} {mg : Str → Option Value} {base : Heap} (T : Tx w K mg) : FnR P w K mg base (L2.CX P w) 3 (He5.wf K (He.ga K "Trail") "staticmethod" "still") (sp_Trail_still K) := by
  refine mkR T.f_Trail_still sc_Trail_still (fun _ _ _ _ _ _ us hl => match us, hl with | [_], _ => rfl) (fun vs H Q E h => by obtain ⟨d, rfl, d1, d3, hq⟩ := h; rfl) (fun cdv A outer s H vs Q E hr h => ?_)
  obtain ⟨d, rfl, d1, d3, hq⟩ := h
  refine ⟨_, (pss_one (ps_ret (pe_mk T.m_Trail (r_Trail__init_ (P := P) (w := w) (K := K) (base := base) T) hr (by rfl) T.g_Trail passL (pa_cons (pv 0) (pa_cons (pe_int) (pa_cons (pe_f (r_origin (P := P) (w := w) (K := K) (base := base) T) T.g_origin T.f_origin.keep hr passL (pa_cons (pv 0) pa_nil)) (pa_cons (pe_lst pa_nil) pa_nil))))))), ?_⟩
  refine start_of (σ := [some (.int d)]) rfl ?_
  simp only [rd, rd2, rd3, rd4, List.getElem?_cons_zero, List.getElem?_cons_succ, Option.some.injEq, exists_eq_left', exists_eq_left, exists_and_left, exists_and_right, List.cons.injEq, V.str.injEq, V.int.injEq, V.bl.injEq, V.ref.injEq, V.ty.injEq, and_true, true_and, List.set_cons_zero, List.set_cons_succ, exists_const, exists_false, reduceCtorEq, ↓reduceIte, exists_eq, exists_eq', and_self, cxK, wipe, List.map_cons, List.map_nil, List.length_cons, List.length_nil, Nat.zero_add, Nat.reduceAdd, Int.cast_ofNat_Int, Int.reduceEq, Int.reduceLE, Int.reduceLT, decide_eq_true_eq, decide_true, decide_false, Bool.true_eq_false, Bool.false_eq_true, Bool.not_true, Bool.not_false]
  refine ⟨d, rfl, d1, d3, fun H1 w0 s1 hw => ⟨Nat.zero_le _, fun l hl => mkTrail fun H2 x dx s2 hx => hq _ _ ((s1.trans (same_upd hl)).trans s2) ⟨x, dx, 0, w0, l, [], rfl, hx, hw.same ((same_upd hl).trans s2), s2 _ _ upd_same, rfl⟩⟩⟩
/-! Trail.put -/
def sp_Trail_put (K : PySem.W.Frag) : Sp := fun vs H Q E => ∃ d k, vs = [.int d, .int k] ∧ 1 ≤ d ∧ d ≤ 3 ∧ ∀ H' v, Same H H' → TrailAt K H' v d (some k) → Q v H'
abbrev sc_Trail_putN : List Str := ["dimension", "number"]
theorem sc_Trail_put : FnScope sc_Trail_putN ["dimension", "number"] (defScope (clsS 78 3)) := ⟨rfl, rfl, rfl, by decide +kernel, rfl, by decide +kernel, by decide +kernel⟩
theorem r_Trail_put {P : Program} {w : World} {K : PySem.W.Frag} {mg : Str → Option Value} {base : Heap} (T : Tx w K mg) : FnR P w K mg base (L2.CX P w) 3 (He5.wf K (He.ga K "Trail") "staticmethod" "put") (sp_Trail_put K) := by
  refine mkR T.f_Trail_put sc_Trail_put (fun _ _ _ _ _ _ us hl => match us, hl with | [_, _], _ => rfl) (fun vs H Q E h => by obtain ⟨d, k, rfl, d1, d3, hq⟩ := h; rfl) (fun cdv A outer s H vs Q E hr h => ?_)
  obtain ⟨d, k, rfl, d1, d3, hq⟩ := h
  refine ⟨_, (pss_one (ps_ret (pe_mk T.m_Trail (r_Trail__init_ (P := P) (w := w) (K := K) (base := base) T) hr (by rfl) T.g_Trail passL (pa_cons (pv 0) (pa_cons (pe_int) (pa_cons (pe_f (r_origin (P := P) (w := w) (K := K) (base := base) T) T.g_origin T.f_origin.keep hr passL (pa_cons (pv 0) pa_nil)) (pa_cons (pe_lst (pa_cons (pe_tup (pa_cons (pv 1) (pa_cons (pe_f (r_origin (P := P) (w := w) (K := K) (base := base) T) T.g_origin T.f_origin.keep hr passL (pa_cons (pv 0) pa_nil)) (pa_cons (pe_int) (pa_cons (pe_tup pa_nil) pa_nil))))) pa_nil)) pa_nil))))))), ?_⟩
  refine start_of (σ := [some (.int d), some (.int k)]) rfl ?_
  simp only [rd, rd2, rd3, rd4, List.getElem?_cons_zero, List.getElem?_cons_succ, Option.some.injEq, exists_eq_left', exists_eq_left, exists_and_left, exists_and_right, List.cons.injEq, V.str.injEq, V.int.injEq, V.bl.injEq, V.ref.injEq, V.ty.injEq, and_true, true_and, List.set_cons_zero, List.set_cons_succ, exists_const, exists_false, reduceCtorEq, ↓reduceIte, exists_eq, exists_eq', and_self, cxK, wipe, List.map_cons, List.map_nil, List.length_cons, List.length_nil, Nat.zero_add, Nat.reduceAdd, Int.cast_ofNat_Int, Int.reduceEq, Int.reduceLE, Int.reduceLT, decide_eq_true_eq, decide_true, decide_false, Bool.true_eq_false, Bool.false_eq_true, Bool.not_true, Bool.not_false]
  refine ⟨d, rfl, d1, d3, fun H1 w0 s1 hw => ⟨d, rfl, d1, d3, fun H2 o s2 ho => ⟨Nat.zero_le _, fun e he => ⟨by decide, fun t ht => ⟨by decide, fun l hl => ?_⟩⟩⟩⟩⟩
  have s3 := s2.trans ((same_upd he).trans ((same_upd ht).trans (same_upd (o := .lst [.ref t]) hl)))
  refine mkTrail fun H4 x dx s4 hx => hq _ _ (s1.trans (s3.trans s4)) ⟨x, dx, 1, w0, l, _, rfl, hx, hw.same (s3.trans s4), s4 _ _ upd_same, t, o, 0, e, rfl, .of (s4 _ _ (same_upd hl _ _ upd_same)), ho.same ((same_upd he).trans ((same_upd ht).trans ((same_upd hl).trans s4))), .of (s4 _ _ (same_upd hl _ _ (same_upd ht _ _ upd_same)))⟩
/-! Trail.__mul__ -/
def sp_Trail__mul_ (K : PySem.W.Frag) : Sp := fun vs H Q E => ∃ a b d k, vs = [a, b] ∧ d ≤ 3 ∧ TrailAt K H a d none ∧ TrailAt K H b d (some k) ∧ ∀ H' v, Same H H' → TrailAt K H' v d (some k) → Q v H'
abbrev sc_Trail__mul_N : List Str := ["self", "other", "moved", "number", "place", "beat", "loops"]
theorem sc_Trail__mul_ : FnScope sc_Trail__mul_N ["self", "other"] (defScope (clsS 78 8)) := ⟨rfl, rfl, rfl, by decide +kernel, rfl, by decide +kernel, by decide +kernel⟩
theorem r_Trail__mul_ {P : Program} {w : World} {K : PySem.W.Frag} {mg : Str → Option Value} {base : Heap} (T : Tx w K mg) : FnR P w K mg base (L2.CX P w) 3 (He.ma K (He.ga K "Trail") "__mul__") (sp_Trail__mul_ K) := by
  refine mkR T.f_Trail__mul_ sc_Trail__mul_ (fun _ _ _ _ _ _ us hl => match us, hl with | [_, _], _ => rfl) (fun vs H Q E h => by obtain ⟨_, _, d, k, rfl, d3, ⟨a, dx, n, w0, r, ts, rfl, a1, a2, a3, a4⟩, ⟨b, dx2, n2, w2, r2, ts2, rfl, b1, b2, b3, t, o, bt, e, rfl, b5, b6, b7⟩, hq⟩ := h; rfl) (fun cdv A outer s H vs Q E hr h => ?_)
  obtain ⟨_, _, d, k, rfl, d3, ⟨a, dx, n, w0, r, ts, rfl, a1, a2, a3, a4⟩, ⟨b, dx2, n2, w2, r2, ts2, rfl, b1, b2, b3, t, o, bt, e, rfl, b5, b6, b7⟩, hq⟩ := h
  refine ⟨_, (pss_cons (ps_setLc (i := 2) (own := [("number", 3), ("place", 4), ("beat", 5), ("loops", 6)]) (tt := tYes) rfl sc_Trail__mul_.nd rfl rfl (sw_true rfl rfl rfl (by decide +kernel)) (pi_list (pe_fd T.c_Trail T.a_Trail_rows (pv 1))) (blkOk_by (N := sc_Trail__mul_N) (sc := (defScope (clsS 78 8))) (by decide +kernel)) (fun _ _ _ _ _ => (kpg (K := K) (n := 4) (pg_tup rfl (pgs_cons (pg_name (i := 3) sc_Trail__mul_.nd rfl (Or.inl rfl)) (pgs_cons (pg_name (i := 4) sc_Trail__mul_.nd rfl (Or.inl rfl)) (pgs_cons (pg_name (i := 5) sc_Trail__mul_.nd rfl (Or.inl rfl)) (pgs_cons (pg_name (i := 6) sc_Trail__mul_.nd rfl (Or.inl rfl)) pgs_nil))))))) (fun _ _ _ _ _ => pts_nil) (fun _ _ _ _ _ => (pe_tup (pa_cons (pv 3) (pa_cons (pe_f (r_add (P := P) (w := w) (K := K) (base := base) T) T.g_add T.f_add.keep hr passL (pa_cons (pv 4) (pa_cons (pe_fd T.c_Trail T.a_Trail_way (pv 0)) pa_nil))) (pa_cons (pe_op op_add (pv 5) (pe_fd T.c_Trail T.a_Trail_length (pv 0))) (pa_cons (pv 6) pa_nil))))))) (pss_one (ps_ret (pe_mk T.m_Trail (r_Trail__init_ (P := P) (w := w) (K := K) (base := base) T) hr (by rfl) T.g_Trail passL (pa_cons (pe_fd T.c_Trail T.a_Trail_ground (pv 0)) (pa_cons (pe_op op_add (pe_fd T.c_Trail T.a_Trail_length (pv 0)) (pe_fd T.c_Trail T.a_Trail_length (pv 1))) (pa_cons (pe_f (r_add (P := P) (w := w) (K := K) (base := base) T) T.g_add T.f_add.keep hr passL (pa_cons (pe_fd T.c_Trail T.a_Trail_way (pv 0)) (pa_cons (pe_fd T.c_Trail T.a_Trail_way (pv 1)) pa_nil))) (pa_cons (pe_op op_cat (pe_fd T.c_Trail T.a_Trail_rows (pv 0)) (pv 2)) pa_nil)))))))), ?_⟩
  refine start_of (σ := [some (.ref a), some (.ref b), none, none, none, none, none]) rfl ?_
  simp only [rd, rd2, rd3, rd4, List.getElem?_cons_zero, List.getElem?_cons_succ, Option.some.injEq, exists_eq_left', exists_eq_left, exists_and_left, exists_and_right, List.cons.injEq, V.str.injEq, V.int.injEq, V.bl.injEq, V.ref.injEq, V.ty.injEq, and_true, true_and, List.set_cons_zero, List.set_cons_succ, exists_const, exists_false, reduceCtorEq, ↓reduceIte, exists_eq, exists_eq', and_self, cxK, wipe, List.map_cons, List.map_nil, List.length_cons, List.length_nil, Nat.zero_add, Nat.reduceAdd, Int.cast_ofNat_Int, Int.reduceEq, Int.reduceLE, Int.reduceLT, decide_eq_true_eq, decide_true, decide_false, Bool.true_eq_false, Bool.false_eq_true, Bool.not_true, Bool.not_false]
  refine ⟨_, _, b1, _, rfl, r2, rfl, ⟨_, .of b3⟩, ?_⟩
  obtain rfl : ts = [] := a4
  refine lc1 (walk_list (xs := [.ref t])) (fun H' s => s.seq (.of b3)) fun D hD => ?_
  have s0 := same_upd (o := .lst []) hD
  refine ⟨t, _, rfl, same_tup s0 b5, rfl, _, _, rfl, _, _, rfl, _, _, rfl, _, _, rfl, rfl, rfl, ?_⟩
  simp only [rd, rd2, rd3, rd4, List.getElem?_cons_zero, List.getElem?_cons_succ, Option.some.injEq, exists_eq_left', exists_eq_left, exists_and_left, exists_and_right, List.cons.injEq, V.str.injEq, V.int.injEq, V.bl.injEq, V.ref.injEq, V.ty.injEq, and_true, true_and, List.set_cons_zero, List.set_cons_succ, exists_const, exists_false, reduceCtorEq, ↓reduceIte, exists_eq, exists_eq', and_self, cxK, wipe, List.map_cons, List.map_nil, List.length_cons, List.length_nil, Nat.zero_add, Nat.reduceAdd, Int.cast_ofNat_Int, Int.reduceEq, Int.reduceLE, Int.reduceLT, decide_eq_true_eq, decide_true, decide_false, Bool.true_eq_false, Bool.false_eq_true, Bool.not_true, Bool.not_false]
  refine ⟨_, _, s0 _ _ a1, _, rfl, ?_⟩
  refine ⟨o, w0, d, rfl, b6.same s0, a2.same s0, d3, fun H1 pl s1 hpl => ?_⟩
  have s01 := s0.trans s1
  refine ⟨_, _, s01 _ _ a1, _, rfl, _, rfl, by decide, fun p hp => ?_⟩
  have sp' := same_upd (o := .tup [.int k, pl, .int (bt + n), .ref e]) hp
  have sG : Same H (upd (upd H1 p (.tup [.int k, pl, .int (bt + n), .ref e])) D (.lst ([] ++ [.ref p]))) := fun b o e => by
    rw [upd_ne (ne_of_none e hD)]; exact sp' _ _ (s01 _ _ e)
  have sxD : SX D H1 (upd (upd H1 p (.tup [.int k, pl, .int (bt + n), .ref e])) D (.lst ([] ++ [.ref p]))) := (SX.of sp').trans SX.upd
  have hD1 := s1 _ _ upd_same
  refine ⟨[], sp' _ _ hD1, by rw [sizeLine_eq]; decide, sG, _, _, sG _ _ a1, _, rfl, _, _, sG _ _ a1, _, rfl, _, _, sG _ _ b1, _, rfl, n, rfl, n2, rfl, ?_⟩
  refine ⟨_, _, sG _ _ a1, _, rfl, _, _, sG _ _ b1, _, rfl, w0, w2, d, rfl, a2.same sG, b2.same sG, d3, fun H3 w3 s3 hw3 => ?_⟩
  have s03 := sG.trans s3
  refine ⟨_, _, s03 _ _ a1, _, rfl, r, D, [], [.ref p], rfl, rfl, s03 _ _ a3, s3 _ _ upd_same, by rw [sizeLine_eq]; simp, fun l hl => mkTrail fun H4 x dx4 s4 hx => ?_⟩
  have s05 := (same_upd hl).trans s4
  have s35 := s3.trans s05
  refine hq _ _ (s03.trans s05) ⟨x, dx4, _, w3, l, [.ref p], rfl, hx, hw3.same s05, s4 _ _ upd_same, p, pl, bt + n, e, rfl, ?_, ((hpl.same sp').sx SX.upd (nt_lst (sp' _ _ hD1))).same s35, same_tup (s03.trans s05) b7⟩
  exact same_tup s35 (SX.upd.tup (nt_lst (sp' _ _ hD1)) (.of upd_same))
/-! Trail.effect -/
def sp_Trail_effect (K : PySem.W.Frag) : Sp := fun vs H Q E => ∃ v d k, vs = [v] ∧ TrailAt K H v d (some k) ∧ k ≠ 0 ∧ ∀ H' u, Same H H' → EffAt K H' u k → Q u H'
abbrev sc_Trail_effectN : List Str := ["self", "terms", "number", "place", "beat", "loops", "stride", "times", "length"]
theorem sc_Trail_effect : FnScope sc_Trail_effectN ["self"] (defScope (clsS 78 11)) := ⟨rfl, rfl, rfl, by decide +kernel, rfl, by decide +kernel, by decide +kernel⟩
theorem r_Trail_effect {P : Program} {w : World} {K : PySem.W.Frag} {mg : Str → Option Value} {base : Heap} (T : Tx w K mg) : FnR P w K mg base (L2.CX P w) 3 (He.ma K (He.ga K "Trail") "effect") (sp_Trail_effect K) := by
  refine mkR T.f_Trail_effect sc_Trail_effect (fun _ _ _ _ _ _ us hl => match us, hl with | [_], _ => rfl) (fun vs H Q E h => by obtain ⟨_, d, k, rfl, ⟨a, dx, n, w0, r, ts, rfl, a1, a2, a3, t, o, bt, e, rfl, a5, a6, a7⟩, hk, hq⟩ := h; rfl) (fun cdv A outer s H vs Q E hr h => ?_)
  obtain ⟨_, d, k, rfl, ⟨a, dx, n, w0, r, ts, rfl, a1, a2, a3, t, o, bt, e, rfl, a5, a6, a7⟩, hk, hq⟩ := h
  refine ⟨_, (pss_cons (ps_set (i := 1) sc_Trail_effect.nd rfl (Or.inl rfl) (pe_lst pa_nil)) (pss_cons (ps_for (passes_of rfl) rfl (pi_list (pe_fd T.c_Trail T.a_Trail_rows (pv 0))) (kpg (K := K) (n := 4) (pg_tup rfl (pgs_cons (pg_name (i := 2) sc_Trail_effect.nd rfl (Or.inl rfl)) (pgs_cons (pg_name (i := 3) sc_Trail_effect.nd rfl (Or.inl rfl)) (pgs_cons (pg_name (i := 4) sc_Trail_effect.nd rfl (Or.inl rfl)) (pgs_cons (pg_name (i := 5) sc_Trail_effect.nd rfl (Or.inl rfl)) pgs_nil)))))) (pss_one (ps_expr (pe_bm PySem.F.plainAttrs_list PySem.F.slot_list_append PySem.F.type_list_append mt_append (pv 1) (pa_cons (pe_f (r_term_of (P := P) (w := w) (K := K) (base := base) T) T.g_term_of T.f_term_of.keep hr passL (pa_cons (pv 2) (pa_cons (pv 3) (pa_cons (pe_lc (own := [("stride", 6), ("times", 7), ("length", 8)]) (tt := tYes) rfl sc_Trail_effect.nd (pi_tup (pv 5)) (blkOk_by (N := sc_Trail_effectN) (sc := (defScope (clsS 78 11))) (by decide +kernel)) (fun _ _ _ _ _ => (kpg (K := K) (n := 3) (pg_tup rfl (pgs_cons (pg_name (i := 6) sc_Trail_effect.nd rfl (Or.inl rfl)) (pgs_cons (pg_name (i := 7) sc_Trail_effect.nd rfl (Or.inl rfl)) (pgs_cons (pg_name (i := 8) sc_Trail_effect.nd rfl (Or.inl rfl)) pgs_nil)))))) (fun _ _ _ _ _ => pts_nil) (fun _ _ _ _ _ => (pe_tup (pa_cons (pv 6) (pa_cons (pv 7) pa_nil))))) pa_nil)))) pa_nil))))) (pss_one (ps_ret (pe_mk T.m_Effect (r_Effect__init_ (P := P) (w := w) (K := K) (base := base) T) hr (by rfl) T.g_Effect passL (pa_cons (pe_fd T.c_Trail T.a_Trail_ground (pv 0)) (pa_cons (pe_fd T.c_Trail T.a_Trail_way (pv 0)) (pa_cons (pv 1) pa_nil)))))))), ?_⟩
  refine start_of (σ := [some (.ref a), none, none, none, none, none, none, none, none]) rfl ?_
  simp only [rd, rd2, rd3, rd4, List.getElem?_cons_zero, List.getElem?_cons_succ, Option.some.injEq, exists_eq_left', exists_eq_left, exists_and_left, exists_and_right, List.cons.injEq, V.str.injEq, V.int.injEq, V.bl.injEq, V.ref.injEq, V.ty.injEq, and_true, true_and, List.set_cons_zero, List.set_cons_succ, exists_const, exists_false, reduceCtorEq, ↓reduceIte, exists_eq, exists_eq', and_self, cxK, wipe, List.map_cons, List.map_nil, List.length_cons, List.length_nil, Nat.zero_add, Nat.reduceAdd, Int.cast_ofNat_Int, Int.reduceEq, Int.reduceLE, Int.reduceLT, decide_eq_true_eq, decide_true, decide_false, Bool.true_eq_false, Bool.false_eq_true, Bool.not_true, Bool.not_false]
  refine ⟨Nat.zero_le _, fun l hl => ?_⟩
  have s0 := same_upd (o := .lst []) hl
  refine ⟨_, _, s0 _ _ a1, _, rfl, r, rfl, ⟨_, .of (s0 _ _ a3)⟩, ?_⟩
  refine forK (walk_list (xs := [.ref t])) (fun i σ' H' => match i with
    | 0 => H' = upd H l (.lst []) ∧ σ' = [some (.ref a), some (.ref l), none, none, none, none, none, none, none]
    | _ + 1 => Same H H' ∧ ∃ u e2 y1 y2 y3 y4 y5 y6 y7, σ' = [some (.ref a), some (.ref l), y1, y2, y3, y4, y5, y6, y7] ∧ H' l = some (.lst [.ref u]) ∧ SqT K H' u [.int k, o, .ref e2] ∧ SqT K H' e2 []) ⟨rfl, rfl⟩ (fun i σ H' _ e => ?_) (fun i v σ H1 H2 hi e y => ?_) fun σ' H' e => ?_
  · match i, e with
    | 0, e => rw [e.1]; exact .of (s0 _ _ a3)
    | _ + 1, e => exact .of (e.1 _ _ a3)
  · obtain rfl : i = 0 := by simpa using hi
    obtain ⟨rfl, rfl⟩ := e
    obtain ⟨rfl, hv⟩ := y
    obtain rfl : V.ref t = v := Option.some.inj hv
    refine ⟨t, _, rfl, same_tup s0 a5, rfl, _, _, rfl, _, _, rfl, _, _, rfl, _, _, rfl, rfl, ?_⟩
    simp only [rd, rd2, rd3, rd4, List.getElem?_cons_zero, List.getElem?_cons_succ, Option.some.injEq, exists_eq_left', exists_eq_left, exists_and_left, exists_and_right, List.cons.injEq, V.str.injEq, V.int.injEq, V.bl.injEq, V.ref.injEq, V.ty.injEq, and_true, true_and, List.set_cons_zero, List.set_cons_succ, exists_const, exists_false, reduceCtorEq, ↓reduceIte, exists_eq, exists_eq', and_self, cxK, wipe, List.map_cons, List.map_nil, List.length_cons, List.length_nil, Nat.zero_add, Nat.reduceAdd, Int.cast_ofNat_Int, Int.reduceEq, Int.reduceLE, Int.reduceLT, decide_eq_true_eq, decide_true, decide_false, Bool.true_eq_false, Bool.false_eq_true, Bool.not_true, Bool.not_false]
    refine ⟨.inl ⟨rfl, _, .of upd_same⟩, ⟨_, same_tup s0 a7⟩, lc0 (walk_tup (xs := [])) (fun H' s => same_tup s (same_tup s0 a7)) fun D H2 hD s2 e2 => ⟨_, _, D, rfl, .of e2, fun H3 t2 e3 s3 h3 h4 => ?_⟩⟩
    have hl3 := s3 _ _ (s2 _ _ upd_same)
    have sx := SX.upd (x := l) (H := H3) (o := .lst ([] ++ [.ref t2]))
    refine ⟨l, [], .ref t2, rfl, rfl, hl3, by rw [sizeLine_eq]; decide, fun b o e => sx _ _ (s3 _ _ (s2 _ _ (s0 _ _ e))) (ne_of_none e hl), t2, upd_same, e3, sx.tup (nt_lst hl3) h3, sx.tup (nt_lst hl3) h4⟩
  · obtain ⟨s1, u, e2, y1, y2, y3, y4, y5, y6, y7, rfl, h1, h2, h3⟩ := e
    simp only [rd, rd2, rd3, rd4, List.getElem?_cons_zero, List.getElem?_cons_succ, Option.some.injEq, exists_eq_left', exists_eq_left, exists_and_left, exists_and_right, List.cons.injEq, V.str.injEq, V.int.injEq, V.bl.injEq, V.ref.injEq, V.ty.injEq, and_true, true_and, List.set_cons_zero, List.set_cons_succ, exists_const, exists_false, reduceCtorEq, ↓reduceIte, exists_eq, exists_eq', and_self, cxK, wipe, List.map_cons, List.map_nil, List.length_cons, List.length_nil, Nat.zero_add, Nat.reduceAdd, Int.cast_ofNat_Int, Int.reduceEq, Int.reduceLE, Int.reduceLT, decide_eq_true_eq, decide_true, decide_false, Bool.true_eq_false, Bool.false_eq_true, Bool.not_true, Bool.not_false]
    refine ⟨_, _, s1 _ _ a1, _, rfl, _, _, s1 _ _ a1, _, rfl, fun n' d' h4 h5 h6 => ?_⟩
    have sm := same_made (C := He.ga K "Effect") h4 h5
    exact ⟨n', d', _, _, l, u, k, o, e2, rfl, upd_same, .of (sm _ _ h1), same_tup sm h2, hk, same_tup sm h3, fun H3 sx he => ⟨rfl, hq _ _ (s1.trans (same_sx h4 sm sx)) he⟩⟩
/-! statement_trail -/
def sp_statement_trail (K : PySem.W.Frag) : Sp := fun vs H Q E => ∃ p d ks bl t k kn, vs = [p, .ref t, kn] ∧ PartsAt K H p d ks bl ∧ PutAt K H t k ∧ ∀ H' v, Same H H' → TrailAt K H' v d (some k) → Q v H'
abbrev sc_statement_trailN : List Str := ["parts", "statement", "known", "word", "one"]
theorem sc_statement_trail : FnScope sc_statement_trailN ["parts", "statement", "known"] (defScope (topS 79)) := ⟨rfl, rfl, rfl, by decide +kernel, rfl, by decide +kernel, by decide +kernel⟩
theorem r_statement_trail {P : Program} {w : World} {K : PySem.W.Frag} {mg : Str → Option Value} {base : Heap} (T : Tx w K mg) : FnR P w K mg base (L2.CX P w) 4 (He.ga K "statement_trail") (sp_statement_trail K) := by
  refine mkR T.f_statement_trail sc_statement_trail (fun _ _ _ _ _ _ us hl => match us, hl with | [_, _, _], _ => rfl) (fun vs H Q E h => by obtain ⟨p, d, ks, bl, t, k, kn, rfl, hp, ⟨ht, hk⟩, hq⟩ := h; rfl) (fun cdv A outer s H vs Q E hr h => ?_)
  obtain ⟨p, d, ks, bl, t, k, kn, rfl, hp, ⟨ht, hk⟩, hq⟩ := h
  obtain ⟨a, dx, kd, kv, val, rfl, h1, h2, h3, h4⟩ := id hp
  refine ⟨_, (pss_cons (ps_asg (pe_slice (r := rSlA K) sl_tupA (pv 1) po_none (po_some pe_int)) (kpg (K := K) (n := 2) (pg_tup rfl (pgs_cons (pg_name (i := 3) sc_statement_trail.nd rfl (Or.inl rfl)) (pgs_cons (pg_name (i := 4) sc_statement_trail.nd rfl (Or.inl rfl)) pgs_nil))))) (pss_cons (ps_if (pt_cmpR op_eq (pv 3) (pe_str) (nomark _)) (pss_one ps_never) pss_nil) (pss_cons (ps_if (pt_cmpR op_eq (pv 3) (pe_str) (nomark _)) (pss_one (ps_ret (pe_st (pe_glob (v := .ref (He.ga K "Trail")) rfl T.g_Trail rfl) (r_Trail_put (P := P) (w := w) (K := K) (base := base) T) T.st_Trail_put hr passL (pa_cons (pe_pr (r_Parts_dimension (P := P) (w := w) (K := K) (base := base) T) T.c_Parts T.p_Parts_dimension hr (pv 0)) (pa_cons (pv 4) pa_nil))))) pss_nil) (pss_cons (ps_if (pt_cmpR op_eq (pv 3) (pe_str) (nomark _)) (pss_one ps_never) pss_nil) (pss_cons ps_never (pss_one ps_never)))))), ?_⟩
  refine start_of (σ := [some (.ref a), some (.ref t), some kn, none, none]) rfl ?_
  simp only [rd, rd2, rd3, rd4, List.getElem?_cons_zero, List.getElem?_cons_succ, Option.some.injEq, exists_eq_left', exists_eq_left, exists_and_left, exists_and_right, List.cons.injEq, V.str.injEq, V.int.injEq, V.bl.injEq, V.ref.injEq, V.ty.injEq, and_true, true_and, List.set_cons_zero, List.set_cons_succ, exists_const, exists_false, reduceCtorEq, ↓reduceIte, exists_eq, exists_eq', and_self, cxK, wipe, List.map_cons, List.map_nil, List.length_cons, List.length_nil, Nat.zero_add, Nat.reduceAdd, Int.cast_ofNat_Int, Int.reduceEq, Int.reduceLE, Int.reduceLT, decide_eq_true_eq, decide_true, decide_false, Bool.true_eq_false, Bool.false_eq_true, Bool.not_true, Bool.not_false]
  refine ⟨t, _, rfl, ht, fun _ => ?_, fun z => absurd ⟨rfl, rfl⟩ z⟩
  refine ⟨_, rfl, _, ht, rfl, _, _, rfl, _, _, rfl, rfl, ?_⟩
  simp only [rd, rd2, rd3, rd4, List.getElem?_cons_zero, List.getElem?_cons_succ, Option.some.injEq, exists_eq_left', exists_eq_left, exists_and_left, exists_and_right, List.cons.injEq, V.str.injEq, V.int.injEq, V.bl.injEq, V.ref.injEq, V.ty.injEq, and_true, true_and, List.set_cons_zero, List.set_cons_succ, exists_const, exists_false, reduceCtorEq, ↓reduceIte, exists_eq, exists_eq', and_self, cxK, wipe, List.map_cons, List.map_nil, List.length_cons, List.length_nil, Nat.zero_add, Nat.reduceAdd, Int.cast_ofNat_Int, Int.reduceEq, Int.reduceLE, Int.reduceLT, decide_eq_true_eq, decide_true, decide_false, Bool.true_eq_false, Bool.false_eq_true, Bool.not_true, Bool.not_false, sNe]
  exact ⟨⟨_, _, h1⟩, _, d, ks, bl, rfl, hp, d, k, rfl, h4.2.1, h4.2.2, hq⟩
/-! block_trail -/
def sp_block_trail (K : PySem.W.Frag) : Sp := fun vs H Q E => ∃ p d ks bl v k kn, vs = [p, v, kn] ∧ PartsAt K H p d ks bl ∧ BlkAt K H v (some k) ∧ ∀ H' u, Same H H' → TrailAt K H' u d (some k) → Q u H'
abbrev sc_block_trailN : List Str := ["parts", "block", "known", "result", "statement"]
theorem sc_block_trail : FnScope sc_block_trailN ["parts", "block", "known"] (defScope (topS 80)) := ⟨rfl, rfl, rfl, by decide +kernel, rfl, by decide +kernel, by decide +kernel⟩
theorem r_block_trail {P : Program} {w : World} {K : PySem.W.Frag} {mg : Str → Option Value} {base : Heap} (T : Tx w K mg) : FnR P w K mg base (L2.CX P w) 5 (He.ga K "block_trail") (sp_block_trail K) := by
  refine mkR T.f_block_trail sc_block_trail (fun _ _ _ _ _ _ us hl => match us, hl with | [_, _, _], _ => rfl) (fun vs H Q E h => by obtain ⟨p, d, ks, bl, v, k, kn, rfl, hp, ⟨a, ts, rfl, ha, t, rfl, ht⟩, hq⟩ := h; rfl) (fun cdv A outer s H vs Q E hr h => ?_)
  obtain ⟨p, d, ks, bl, v, k, kn, rfl, hp, ⟨a, ts, rfl, ha, t, rfl, ht⟩, hq⟩ := h
  obtain ⟨pa, dx, kd, kv, val, rfl, h1, h2, h3, h4⟩ := id hp
  refine ⟨_, (pss_cons (ps_set (i := 3) sc_block_trail.nd rfl (Or.inl rfl) (pe_st (pe_glob (v := .ref (He.ga K "Trail")) rfl T.g_Trail rfl) (r_Trail_still (P := P) (w := w) (K := K) (base := base) T) T.st_Trail_still hr passL (pa_cons (pe_pr (r_Parts_dimension (P := P) (w := w) (K := K) (base := base) T) T.c_Parts T.p_Parts_dimension hr (pv 0)) pa_nil))) (pss_cons (ps_for (passes_of rfl) rfl (pi_tup (pv 1)) (pg_name (i := 4) sc_block_trail.nd rfl (Or.inl rfl)) (pss_one (ps_set (i := 3) sc_block_trail.nd rfl (Or.inl rfl) (pe_op (op_own (r_Trail__mul_ (P := P) (w := w) (K := K) (base := base) T) T.o_Trail hr) (pv 3) (pe_f (r_statement_trail (P := P) (w := w) (K := K) (base := base) T) T.g_statement_trail T.f_statement_trail.keep hr passL (pa_cons (pv 0) (pa_cons (pv 4) (pa_cons (pv 2) pa_nil)))))))) (pss_one (ps_ret (pv 3))))), ?_⟩
  refine start_of (σ := [some (.ref pa), some (.ref a), some kn, none, none]) rfl ?_
  simp only [rd, rd2, rd3, rd4, List.getElem?_cons_zero, List.getElem?_cons_succ, Option.some.injEq, exists_eq_left', exists_eq_left, exists_and_left, exists_and_right, List.cons.injEq, V.str.injEq, V.int.injEq, V.bl.injEq, V.ref.injEq, V.ty.injEq, and_true, true_and, List.set_cons_zero, List.set_cons_succ, exists_const, exists_false, reduceCtorEq, ↓reduceIte, exists_eq, exists_eq', and_self, cxK, wipe, List.map_cons, List.map_nil, List.length_cons, List.length_nil, Nat.zero_add, Nat.reduceAdd, Int.cast_ofNat_Int, Int.reduceEq, Int.reduceLE, Int.reduceLT, decide_eq_true_eq, decide_true, decide_false, Bool.true_eq_false, Bool.false_eq_true, Bool.not_true, Bool.not_false]
  refine ⟨⟨_, _, h1⟩, _, d, ks, bl, rfl, hp, d, rfl, h4.2.1, h4.2.2, fun H1 u s1 hu => ⟨⟨_, same_tup s1 ha⟩, ?_⟩⟩
  refine forK (walk_tup (xs := [.ref t])) (fun i σ' H' => Same H H' ∧ match i with
    | 0 => H' = H1 ∧ σ' = [some (.ref pa), some (.ref a), some kn, some u, none]
    | _ + 1 => ∃ u2 y, σ' = [some (.ref pa), some (.ref a), some kn, some u2, y] ∧ TrailAt K H' u2 d (some k)) ⟨s1, rfl, rfl⟩ (fun i σ H' _ e => same_tup e.1 ha) (fun i v σ H2 H3 hi e y => ?_) fun σ' H' e => ?_
  · obtain rfl : i = 0 := by simpa using hi
    obtain ⟨s2, rfl, rfl⟩ := e
    obtain ⟨rfl, hv⟩ := y
    obtain rfl : V.ref t = v := Option.some.inj hv
    simp only [rd, rd2, rd3, rd4, List.getElem?_cons_zero, List.getElem?_cons_succ, Option.some.injEq, exists_eq_left', exists_eq_left, exists_and_left, exists_and_right, List.cons.injEq, V.str.injEq, V.int.injEq, V.bl.injEq, V.ref.injEq, V.ty.injEq, and_true, true_and, List.set_cons_zero, List.set_cons_succ, exists_const, exists_false, reduceCtorEq, ↓reduceIte, exists_eq, exists_eq', and_self, cxK, wipe, List.map_cons, List.map_nil, List.length_cons, List.length_nil, Nat.zero_add, Nat.reduceAdd, Int.cast_ofNat_Int, Int.reduceEq, Int.reduceLE, Int.reduceLT, decide_eq_true_eq, decide_true, decide_false, Bool.true_eq_false, Bool.false_eq_true, Bool.not_true, Bool.not_false]
    refine ⟨_, d, ks, bl, t, k, kn, rfl, hp.same s1, ht.same s1, fun H4 v s4 hv => ?_⟩
    obtain ⟨u0, dx0, n0, w0, r0, ts0, rfl, c1, c2⟩ := id (hu.same s4)
    obtain ⟨v0, dx3, n3, w3, r3, ts3, rfl, c3, c4⟩ := id hv
    exact ⟨u0, v0, _, _, _, _, rfl, rfl, c1, c3, _, _, d, k, rfl, h4.2.2, hu.same s4, hv, fun H5 v5 s5 hv5 => ⟨s1.trans (s4.trans s5), hv5⟩⟩
  · obtain ⟨s2, u2, y, rfl, h⟩ := e
    simp only [rd, rd2, rd3, rd4, List.getElem?_cons_zero, List.getElem?_cons_succ, Option.some.injEq, exists_eq_left', exists_eq_left, exists_and_left, exists_and_right, List.cons.injEq, V.str.injEq, V.int.injEq, V.bl.injEq, V.ref.injEq, V.ty.injEq, and_true, true_and, List.set_cons_zero, List.set_cons_succ, exists_const, exists_false, reduceCtorEq, ↓reduceIte, exists_eq, exists_eq', and_self, cxK, wipe, List.map_cons, List.map_nil, List.length_cons, List.length_nil, Nat.zero_add, Nat.reduceAdd, Int.cast_ofNat_Int, Int.reduceEq, Int.reduceLE, Int.reduceLT, decide_eq_true_eq, decide_true, decide_false, Bool.true_eq_false, Bool.false_eq_true, Bool.not_true, Bool.not_false]
    exact hq _ _ s2 h
/-! trail_of -/
def sp_trail_of (K : PySem.W.Frag) : Sp := fun vs H Q E => ∃ p d ks bl v k, vs = [p, v] ∧ PartsAt K H p d ks bl ∧ BlkAt K H v (some k) ∧ ∀ H' u, Same H H' → TrailAt K H' u d (some k) → Q u H'
abbrev sc_trail_ofN : List Str := ["parts", "block"]
theorem sc_trail_of : FnScope sc_trail_ofN ["parts", "block"] (defScope (topS 81)) := ⟨rfl, rfl, rfl, by decide +kernel, rfl, by decide +kernel, by decide +kernel⟩
theorem r_trail_of {P : Program} {w : World} {K : PySem.W.Frag} {mg : Str → Option Value} {base : Heap} (T : Tx w K mg) : FnR P w K mg base (L2.CX P w) 8 (He.ga K "trail_of") (sp_trail_of K) := by
  refine mkR T.f_trail_of sc_trail_of (fun _ _ _ _ _ _ us hl => match us, hl with | [_, _], _ => rfl) (fun vs H Q E h => by obtain ⟨p, d, ks, bl, v, k, rfl, hp, hb, hq⟩ := h; rfl) (fun cdv A outer s H vs Q E hr h => ?_)
  obtain ⟨p, d, ks, bl, v, k, rfl, hp, hb, hq⟩ := h
  obtain ⟨pa, dx, kd, kv, val, rfl, h1, h2, h3, h4⟩ := id hp
  refine ⟨_, (pss_cons (ps_expr (pe_m (pv 0) (r_Parts_check (P := P) (w := w) (K := K) (base := base) T) T.c_Parts T.t_Parts_check hr passL (pa_cons (pv 1) pa_nil))) (pss_one (ps_ret (pe_f (r_block_trail (P := P) (w := w) (K := K) (base := base) T) T.g_block_trail T.f_block_trail.keep hr passL (pa_cons (pv 0) (pa_cons (pv 1) (pa_cons (pe_dnewK) pa_nil))))))), ?_⟩
  refine start_of (σ := [some (.ref pa), some v]) rfl ?_
  simp only [rd, rd2, rd3, rd4, List.getElem?_cons_zero, List.getElem?_cons_succ, Option.some.injEq, exists_eq_left', exists_eq_left, exists_and_left, exists_and_right, List.cons.injEq, V.str.injEq, V.int.injEq, V.bl.injEq, V.ref.injEq, V.ty.injEq, and_true, true_and, List.set_cons_zero, List.set_cons_succ, exists_const, exists_false, reduceCtorEq, ↓reduceIte, exists_eq, exists_eq', and_self, cxK, wipe, List.map_cons, List.map_nil, List.length_cons, List.length_nil, Nat.zero_add, Nat.reduceAdd, Int.cast_ofNat_Int, Int.reduceEq, Int.reduceLE, Int.reduceLT, decide_eq_true_eq, decide_true, decide_false, Bool.true_eq_false, Bool.false_eq_true, Bool.not_true, Bool.not_false]
  exact ⟨_, _, h1, rfl, _, d, ks, bl, v, _, rfl, hp, hb, fun H1 s1 => fun p2 hp2 => ⟨_, d, ks, bl, v, k, _, rfl, hp.same (s1.trans (same_upd hp2)), hb.same (s1.trans (same_upd hp2)), fun H2 u s2 hu => hq _ _ ((s1.trans (same_upd hp2)).trans s2) hu⟩⟩
/-! part_trail -/
def sp_part_trail0 (K : PySem.W.Frag) : Sp := fun vs H Q E => ∃ p d ks bl z k, vs = [p, .str z, .bl false] ∧ PartsAt K H p d ks bl ∧ z ∈ ks ∧ bl z = some k ∧ ∀ H' u, Same H H' → TrailAt K H' u d (some k) → Q u H'
def sp_part_trail (K : PySem.W.Frag) : Sp := fun vs H Q E => ∃ p d ks bl z k, vs = [p, .str z] ∧ PartsAt K H p d ks bl ∧ z ∈ ks ∧ bl z = some k ∧ ∀ H' u, Same H H' → TrailAt K H' u d (some k) → Q u H'
abbrev sc_part_trailN : List Str := ["parts", "name", "back", "block"]
theorem sc_part_trail : FnScope sc_part_trailN ["parts", "name", "back"] (defScope (topS 82)) := ⟨rfl, rfl, rfl, by decide +kernel, rfl, by decide +kernel, by decide +kernel⟩
theorem r_part_trail {P : Program} {w : World} {K : PySem.W.Frag} {mg : Str → Option Value} {base : Heap} (T : Tx w K mg) : FnR P w K mg base (L2.CX P w) 9 (He.ga K "part_trail") (sp_part_trail K) := by
  refine (mkRk (n := 2) (sp := sp_part_trail0 K) T.f_part_trail sc_part_trail (by simp) rfl (fun D doc pm an cdv ct us ks hu hk => ?_) (fun vs H Q E h => by obtain ⟨p, d, ks, bl, z, k, rfl, h⟩ := h; rfl) (fun cdv A outer s H vs Q E hr h => ?_)).imp fun vs H Q E h => ?_
  · match us, hu, ks, hk with
    | [u1, u2], _, [k1], _ => exact ⟨_, _, _, _, _, _, rfl, rfl, rfl⟩
  · obtain ⟨p, d, ks, bl, z, k, rfl, hp, hz, hb, hq⟩ := h
    obtain ⟨pa, dx, kd, kv, val, rfl, h1, h2, h3, h4⟩ := id hp
    refine ⟨_, (pss_cons (ps_set (i := 3) sc_part_trail.nd rfl (Or.inl rfl) (pe_m (pv 0) (r_Parts_block (P := P) (w := w) (K := K) (base := base) T) T.c_Parts T.t_Parts_block hr passL (pa_cons (pv 1) pa_nil))) (pss_one (ps_ret (pe_f (r_trail_of (P := P) (w := w) (K := K) (base := base) T) T.g_trail_of T.f_trail_of.keep hr passL (pa_cons (pv 0) (pa_cons (pe_ifExp (pt_val (pv 2)) pe_never (pv 3)) pa_nil)))))), ?_⟩
    refine start_of (σ := [some (.ref pa), some (.str z), some (.bl false), none]) rfl ?_
    simp only [rd, rd2, rd3, rd4, List.getElem?_cons_zero, List.getElem?_cons_succ, Option.some.injEq, exists_eq_left', exists_eq_left, exists_and_left, exists_and_right, List.cons.injEq, V.str.injEq, V.int.injEq, V.bl.injEq, V.ref.injEq, V.ty.injEq, and_true, true_and, List.set_cons_zero, List.set_cons_succ, exists_const, exists_false, reduceCtorEq, ↓reduceIte, exists_eq, exists_eq', and_self, cxK, wipe, List.map_cons, List.map_nil, List.length_cons, List.length_nil, Nat.zero_add, Nat.reduceAdd, Int.cast_ofNat_Int, Int.reduceEq, Int.reduceLE, Int.reduceLT, decide_eq_true_eq, decide_true, decide_false, Bool.true_eq_false, Bool.false_eq_true, Bool.not_true, Bool.not_false]
    exact ⟨_, _, h1, rfl, _, d, ks, bl, z, rfl, hp, hz, fun u hu => ⟨_, d, ks, bl, u, k, rfl, hp, hb ▸ hu, hq⟩⟩
  · obtain ⟨p, d, ks, bl, z, k, rfl, h⟩ := h
    exact ⟨p, d, ks, bl, z, k, rfl, h⟩
/-! Book.trail -/
def sp_Book_trail (K : PySem.W.Frag) : Sp := fun vs H Q E => ∃ b pl fl d s ps fs z k, vs = [.ref b, .str z] ∧ BookAt K H b pl fl d s ps fs ∧ z ∈ s.1 ∧ s.2 z = some k ∧ ∀ H' u, Same H H' → TrailAt K H' u d (some k) → Q u H'
abbrev sc_Book_trailN : List Str := ["self", "name"]
theorem sc_Book_trail : FnScope sc_Book_trailN ["self", "name"] (defScope (clsS 92 17)) := ⟨rfl, rfl, rfl, by decide +kernel, rfl, by decide +kernel, by decide +kernel⟩
theorem r_Book_trail {P : Program} {w : World} {K : PySem.W.Frag} {mg : Str → Option Value} {base : Heap} (T : Tx w K mg) : FnR P w K mg base (L2.CX P w) 10 (He.ma K (He.ga K "Book") "trail") (sp_Book_trail K) := by
  refine mkR T.f_Book_trail sc_Book_trail (fun _ _ _ _ _ _ us hl => match us, hl with | [_, _], _ => rfl) (fun vs H Q E h => by obtain ⟨b, pl, fl, d, s, ps, fs, z, k, rfl, ⟨dx, p0, kt, kn, ts, qv, gv, h1, h2, h3⟩, hz, hk, hq⟩ := h; rfl) (fun cdv A outer s H vs Q E hr h => ?_)
  obtain ⟨b, pl, fl, d, s, ps, fs, z, k, rfl, ⟨dx, p0, kt, kn, ts, qv, gv, h1, h2, h3⟩, hz, hk, hq⟩ := h
  refine ⟨_, (pss_one (ps_ret (pe_f (r_part_trail (P := P) (w := w) (K := K) (base := base) T) T.g_part_trail T.f_part_trail.keep hr passL (pa_cons (pe_fd T.c_Book T.a_Book_now (pv 0)) (pa_cons (pv 1) pa_nil))))), ?_⟩
  refine start_of (σ := [some (.ref b), some (.str z)]) rfl ?_
  simp only [rd, rd2, rd3, rd4, List.getElem?_cons_zero, List.getElem?_cons_succ, Option.some.injEq, exists_eq_left', exists_eq_left, exists_and_left, exists_and_right, List.cons.injEq, V.str.injEq, V.int.injEq, V.bl.injEq, V.ref.injEq, V.ty.injEq, and_true, true_and, List.set_cons_zero, List.set_cons_succ, exists_const, exists_false, reduceCtorEq, ↓reduceIte, exists_eq, exists_eq', and_self, cxK, wipe, List.map_cons, List.map_nil, List.length_cons, List.length_nil, Nat.zero_add, Nat.reduceAdd, Int.cast_ofNat_Int, Int.reduceEq, Int.reduceLE, Int.reduceLT, decide_eq_true_eq, decide_true, decide_false, Bool.true_eq_false, Bool.false_eq_true, Bool.not_true, Bool.not_false]
  exact ⟨_, _, h1, _, rfl, p0, d, s.1, s.2, z, k, rfl, h2, hz, hk, hq⟩
end Sf

/-! ### the tongue, for the texts of one put -/
namespace Sf
open PySem PySem.Spec PyProof.Rows L2
def txC (c : Nat) : Str := ⟨#[112, 117, 116, 32, c]⟩
def TokAt (K : PySem.W.Frag) (H : Hp) (c : Nat) (l : Addr) : Prop := ∃ t1 t2, H l = some (.lst [.ref t1, .ref t2]) ∧ SqT K H t1 [.int 0, .str "put"] ∧ SqT K H t2 [.int 4, .str ⟨#[c]⟩]
def RdAt (K : PySem.W.Frag) (H : Hp) (a : Addr) (c : Nat) (i : Int) : Prop :=
  ∃ dx l sz g, H a = some (.ins (He.ga K "Reader") dx [("tokens", .ref l), ("size", sz), ("ground", g), ("at", .int i), ("opened", .int 0)]) ∧ TokAt K H c l
section
variable {K : PySem.W.Frag} {H H' : Hp} {c : Nat}
theorem TokAt.sx {x l : Addr} (s : SX x H H') (n : NT H x) (hl : l ≠ x) (h : TokAt K H c l) : TokAt K H' c l := by
  obtain ⟨t1, t2, h1, h2, h3⟩ := h
  exact ⟨t1, t2, s _ _ h1 hl, s.tup n h2, s.tup n h3⟩
theorem TokAt.same {l : Addr} (s : Same H H') (h : TokAt K H c l) : TokAt K H' c l := by
  obtain ⟨t1, t2, h1, h2, h3⟩ := h
  exact ⟨t1, t2, s _ _ h1, same_tup s h2, same_tup s h3⟩
theorem RdAt.same {a : Addr} {i : Int} (s : Same H H') (h : RdAt K H a c i) : RdAt K H' a c i := by
  obtain ⟨dx, l, sz, g, h1, h2⟩ := h
  exact ⟨dx, l, sz, g, s _ _ h1, h2.same s⟩
end
def stV : Nat → V
  | 0 => .non
  | 1 => .int 0
  | 2 => .int 0
  | 3 => .int 0
  | 4 => .non
  | 5 => .int 4
  | _ => .non
def FdAt (K : PySem.W.Frag) (H : Hp) (c : Nat) : Nat → List V → Prop
  | 0, fs => fs = []
  | 1, fs => fs = []
  | 2, fs => fs = []
  | 3, fs => fs = []
  | 4, fs => ∃ t1, fs = [.ref t1] ∧ SqT K H t1 [.int 0, .str "put"]
  | 5, fs => ∃ t1, fs = [.ref t1] ∧ SqT K H t1 [.int 0, .str "put"]
  | _, fs => ∃ t1 t2, fs = [.ref t1, .ref t2] ∧ SqT K H t1 [.int 0, .str "put"] ∧ SqT K H t2 [.int 4, .str ⟨#[c]⟩]
def Fig (c : Nat) : Prop := c = 49 ∨ c = 50
/-! is_number -/
def sp_is_number (K : PySem.W.Frag) : Sp := fun vs H Q E => ∃ c, vs = [.str ⟨#[c]⟩] ∧ Fig c ∧ ∀ H', Same H H' → Q (.bl true) H'
abbrev sc_is_numberN : List Str := ["word", "figures", "sign"]
theorem sc_is_number : FnScope sc_is_numberN ["word"] (defScope (topS 114)) := ⟨rfl, rfl, rfl, by decide +kernel, rfl, by decide +kernel, by decide +kernel⟩
theorem r_is_number {P : Program} {w : World} {K : PySem.W.Frag} {mg : Str → Option Value} {base : Heap} (T : Tx w K mg) : FnR P w K mg base (L2.CX P w) 1 (He.ga K "is_number") (sp_is_number K) := by
  refine mkR T.f_is_number sc_is_number (fun _ _ _ _ _ _ us hl => match us, hl with | [_], _ => rfl) (fun vs H Q E h => by obtain ⟨c, rfl, hc, hq⟩ := h; rfl) (fun cdv A outer s H vs Q E hr h => ?_)
  obtain ⟨c, rfl, hc, hq⟩ := h
  refine ⟨_, (pss_cons (ps_set (i := 1) sc_is_number.nd rfl (Or.inl rfl) (pe_ifExp (pt_cmpR op_eq (pe_slice sl_str (pv 0) po_none (po_some (pe_int))) (pe_str) (nomark _)) (pe_slice sl_str (pv 0) (po_some (pe_int)) po_none) (pv 0))) (pss_cons (ps_if (PW.pt (pw_or (pt_not (pt_chain op_le op_le (pe_int) (pe_callB call_len_str (by rfl) T.n_len boot_len (pa_cons (pv 1) pa_nil)) (C8.pe_gc (by rfl) T.i_MAX_DIGITS))) (pw_or1 (pt_not (pt_val (pe_callB (r := rAll K) (cr_all rfl) (by rfl) T.n_all (by decide +kernel) (pa_cons (pe_lc (own := [("sign", 2)]) (g := gName 2) (tt := tYes) rfl sc_is_number.nd (pi_str (pv 1)) (blkOk_by (N := sc_is_numberN) (sc := (defScope (topS 114))) (by decide +kernel)) (fun _ _ _ _ _ => (pg_name (i := 2) sc_is_number.nd rfl (Or.inl rfl))) (fun _ _ _ _ _ => pts_nil) (fun _ _ _ _ _ => (pe_cmpR op_in_sign (pv 2) (C8.pe_gc (by rfl) T.s_FIGURES) (by rfl)))) pa_nil))))))) (pss_one (ps_ret (pe_bl))) pss_nil) (pss_one (ps_ret (pe_or (pe_cmpR op_eq (pv 0) (pe_str) (nomark _)) (pe_one (pe_cmpR op_ne (pe_ix ix_str (pv 1) (pe_int) (fun _ _ => rfl)) (pe_str) (nomark _)))))))), ?_⟩
  refine start_of (σ := [some (.str ⟨#[c]⟩), none, none]) rfl ?_
  simp only [rd, rd2, rd3, rd4, List.getElem?_cons_zero, List.getElem?_cons_succ, Option.some.injEq, exists_eq_left', exists_eq_left, exists_and_left, exists_and_right, List.cons.injEq, V.str.injEq, V.int.injEq, V.bl.injEq, V.ref.injEq, V.ty.injEq, and_true, true_and, List.set_cons_zero, List.set_cons_succ, exists_const, exists_false, reduceCtorEq, ↓reduceIte, exists_eq, exists_eq', and_self, cxK, wipe, List.map_cons, List.map_nil, List.length_cons, List.length_nil, Nat.zero_add, Nat.reduceAdd, Int.cast_ofNat_Int, Int.reduceEq, Int.reduceLE, Int.reduceLT, decide_eq_true_eq, decide_true, decide_false, Bool.true_eq_false, Bool.false_eq_true, Bool.not_true, Bool.not_false]
  have big : (1 : Nat) ≤ sizeLine := by rw [sizeLine_eq]; decide
  have key : ∀ H', Same H H' → Q (.bl true) H' := hq
  rcases hc with rfl | rfl
  all_goals
    refine ⟨_, rfl, big, rfl, ?_⟩
    rw [if_neg (by decide)]
    refine ⟨big, ?_⟩
    rw [if_pos (by decide), if_neg (by decide)]
    refine lcG walk_sgs (fun _ => true) (fun _ => .bl true) (by decide) (fun _ => rfl) (fun _ _ => trivial) (fun x H' R hx s1 hR => tYesG hR) (fun x H' R hx _ s1 hR => ?_) fun D H' s1 e => ?_
    · obtain ⟨c, hc, rfl⟩ := List.mem_map.mp hx
      obtain rfl := List.mem_singleton.mp hc
      simp only [rd, rd2, rd3, rd4, List.getElem?_cons_zero, List.getElem?_cons_succ, Option.some.injEq, exists_eq_left', exists_eq_left, exists_and_left, exists_and_right, List.cons.injEq, V.str.injEq, V.int.injEq, V.bl.injEq, V.ref.injEq, V.ty.injEq, and_true, true_and, List.set_cons_zero, List.set_cons_succ, exists_const, exists_false, reduceCtorEq, ↓reduceIte, exists_eq, exists_eq', and_self, cxK, wipe, List.map_cons, List.map_nil, List.length_cons, List.length_nil, Nat.zero_add, Nat.reduceAdd, Int.cast_ofNat_Int, Int.reduceEq, Int.reduceLE, Int.reduceLT, decide_eq_true_eq, decide_true, decide_false, Bool.true_eq_false, Bool.false_eq_true, Bool.not_true, Bool.not_false]
      refine ⟨_, rfl, ?_⟩
      exact hR _ (Same.refl _)
    · simp only [rd, rd2, rd3, rd4, List.getElem?_cons_zero, List.getElem?_cons_succ, Option.some.injEq, exists_eq_left', exists_eq_left, exists_and_left, exists_and_right, List.cons.injEq, V.str.injEq, V.int.injEq, V.bl.injEq, V.ref.injEq, V.ty.injEq, and_true, true_and, List.set_cons_zero, List.set_cons_succ, exists_const, exists_false, reduceCtorEq, ↓reduceIte, exists_eq, exists_eq', and_self, cxK, wipe, List.map_cons, List.map_nil, List.length_cons, List.length_nil, Nat.zero_add, Nat.reduceAdd, Int.cast_ofNat_Int, Int.reduceEq, Int.reduceLE, Int.reduceLT, decide_eq_true_eq, decide_true, decide_false, Bool.true_eq_false, Bool.false_eq_true, Bool.not_true, Bool.not_false]
      refine ⟨[true], .of e, ?_⟩
      refine ⟨rfl, ?_⟩
      rw [if_neg (by decide)]
      refine ⟨_, _, _, rfl, rfl, big, rfl, rfl, ?_⟩
      exact hq _ s1
/-! tokens_of -/
def sp_tokens_of (K : PySem.W.Frag) : Sp := fun vs H Q E => ∃ c, vs = [.str (txC c)] ∧ Fig c ∧ ∀ H' l, Same H H' → TokAt K H' c l → Q (.ref l) H'
abbrev sc_tokens_ofN : List Str := ["text", "found", "start", "at", "sign"]
theorem sc_tokens_of : FnScope sc_tokens_ofN ["text"] (defScope (topS 115)) := ⟨rfl, rfl, rfl, by decide +kernel, rfl, by decide +kernel, by decide +kernel⟩
theorem r_tokens_of {P : Program} {w : World} {K : PySem.W.Frag} {mg : Str → Option Value} {base : Heap} (T : Tx w K mg) : FnR P w K mg base (L2.CX P w) 1 (He.ga K "tokens_of") (sp_tokens_of K) := by
  refine mkR T.f_tokens_of sc_tokens_of (fun _ _ _ _ _ _ us hl => match us, hl with | [_], _ => rfl) (fun vs H Q E h => by obtain ⟨c, rfl, hc, hq⟩ := h; rfl) (fun cdv A outer s H vs Q E hr h => ?_)
  obtain ⟨c, rfl, hc, hq⟩ := h
  refine ⟨_, (pss_cons (ps_set (i := 1) sc_tokens_of.nd rfl (Or.inl rfl) (pe_lst pa_nil)) (pss_cons (ps_set (i := 2) sc_tokens_of.nd rfl (Or.inl rfl) (pe_non)) (pss_cons (ps_for (passes_of rfl) rfl (pi_enumS T.n_enumerate (pa_cons (pe_op op_add_str (pv 0) (pe_str)) pa_nil)) (kpg (K := K) (n := 2) (pg_tup rfl (pgs_cons (pg_name (i := 3) sc_tokens_of.nd rfl (Or.inl rfl)) (pgs_cons (pg_name (i := 4) sc_tokens_of.nd rfl (Or.inl rfl)) pgs_nil)))) (pss_cons (ps_if (PW.pt (pw_and (pt_cmpR op_notN (pv 2) (pe_non) (nomark _)) (pw_and1 (PW.pt (pw_or (pt_cmpR op_eq (pv 4) (pe_str) (nomark _)) (pw_or1 (pt_cmpR op_in_sign (pv 4) (C8.pe_gc (by rfl) T.s_MARKS) (by rfl)))))))) (pss_cons (ps_expr (pe_bm PySem.F.plainAttrs_list PySem.F.slot_list_append PySem.F.type_list_append mt_append (pv 1) (pa_cons (pe_tup (pa_cons (pv 2) (pa_cons (pe_slice sl_str (pv 0) (po_some (pv 2)) (po_some (pv 3))) pa_nil))) pa_nil))) (pss_one (ps_set (i := 2) sc_tokens_of.nd rfl (Or.inl rfl) (pe_non)))) pss_nil) (pss_one (ps_if (pt_cmpR op_in_sign (pv 4) (C8.pe_gc (by rfl) T.s_MARKS) (by rfl)) (pss_one ps_never) (pss_one (ps_if (PW.pt (pw_and (pt_cmpR op_ne (pv 4) (pe_str) (nomark _)) (pw_and1 (pt_cmpR op_isN (pv 2) (pe_non) (nomark _))))) (pss_one (ps_set (i := 2) sc_tokens_of.nd rfl (Or.inl rfl) (pv 3))) pss_nil)))))) (pss_one (ps_ret (pv 1)))))), ?_⟩
  refine start_of (σ := [some (.str (txC c)), none, none, none, none]) rfl ?_
  simp only [rd, rd2, rd3, rd4, List.getElem?_cons_zero, List.getElem?_cons_succ, Option.some.injEq, exists_eq_left', exists_eq_left, exists_and_left, exists_and_right, List.cons.injEq, V.str.injEq, V.int.injEq, V.bl.injEq, V.ref.injEq, V.ty.injEq, and_true, true_and, List.set_cons_zero, List.set_cons_succ, exists_const, exists_false, reduceCtorEq, ↓reduceIte, exists_eq, exists_eq', and_self, cxK, wipe, List.map_cons, List.map_nil, List.length_cons, List.length_nil, Nat.zero_add, Nat.reduceAdd, Int.cast_ofNat_Int, Int.reduceEq, Int.reduceLE, Int.reduceLT, decide_eq_true_eq, decide_true, decide_false, Bool.true_eq_false, Bool.false_eq_true, Bool.not_true, Bool.not_false]
  refine ⟨Nat.zero_le _, fun l hl => ⟨by rw [sizeLine_eq]; exact Nat.le_trans (show (txC c).length + 1 ≤ 6 from Nat.le_refl _) (by decide), ?_⟩⟩
  have hz : (txC c ++ (" " : Str)).cps = #[112, 117, 116, 32, c, 32] := rfl
  refine forK (walk_enumS (z := txC c ++ " ")) (fun i σ' H' => Same H H' ∧ ∃ at_ sg fs, σ' = [some (.str (txC c)), some (.ref l), some (stV i), at_, sg] ∧ H' l = some (.lst fs) ∧ FdAt K H' c i fs) ⟨same_upd hl, _, _, [], rfl, upd_same, rfl⟩ (fun i σ H' _ e => trivial) (fun i v σ H1 H2 hi e y => ?_) fun σ' H' e => ?_
  · obtain ⟨s1, at_, sg, fs, rfl, hL, hF⟩ := e
    obtain ⟨T', cc, rfl, hT, rfl, hcc⟩ := y
    have hi6 : i < 6 := hi
    have sT := same_upd (o := .tup [.int (i : Nat), .str ⟨#[cc]⟩]) hT
    have hi0 : i = 0 ∨ i = 1 ∨ i = 2 ∨ i = 3 ∨ i = 4 ∨ i = 5 := by omega
    rcases hi0 with rfl | rfl | rfl | rfl | rfl | rfl
    · obtain rfl : 112 = cc := Option.some.inj hcc
      obtain rfl : fs = [] := hF
      refine ⟨_, _, rfl, .of upd_same, rfl, _, _, rfl, _, _, rfl, rfl, ?_⟩
      simp only [rd, rd2, rd3, rd4, List.getElem?_cons_zero, List.getElem?_cons_succ, Option.some.injEq, exists_eq_left', exists_eq_left, exists_and_left, exists_and_right, List.cons.injEq, V.str.injEq, V.int.injEq, V.bl.injEq, V.ref.injEq, V.ty.injEq, and_true, true_and, List.set_cons_zero, List.set_cons_succ, exists_const, exists_false, reduceCtorEq, ↓reduceIte, exists_eq, exists_eq', and_self, cxK, wipe, List.map_cons, List.map_nil, List.length_cons, List.length_nil, Nat.zero_add, Nat.reduceAdd, Int.cast_ofNat_Int, Int.reduceEq, Int.reduceLE, Int.reduceLT, decide_eq_true_eq, decide_true, decide_false, Bool.true_eq_false, Bool.false_eq_true, Bool.not_true, Bool.not_false, stV]
      refine ⟨112, rfl, ?_⟩
      rw [if_neg (by decide)]
      refine ⟨rfl, ?_⟩
      rw [if_pos (by decide)]
      exact ⟨s1.trans sT, [], sT _ _ hL, rfl⟩
    · obtain rfl : 117 = cc := Option.some.inj hcc
      obtain rfl : fs = [] := hF
      refine ⟨_, _, rfl, .of upd_same, rfl, _, _, rfl, _, _, rfl, rfl, ?_⟩
      simp only [rd, rd2, rd3, rd4, List.getElem?_cons_zero, List.getElem?_cons_succ, Option.some.injEq, exists_eq_left', exists_eq_left, exists_and_left, exists_and_right, List.cons.injEq, V.str.injEq, V.int.injEq, V.bl.injEq, V.ref.injEq, V.ty.injEq, and_true, true_and, List.set_cons_zero, List.set_cons_succ, exists_const, exists_false, reduceCtorEq, ↓reduceIte, exists_eq, exists_eq', and_self, cxK, wipe, List.map_cons, List.map_nil, List.length_cons, List.length_nil, Nat.zero_add, Nat.reduceAdd, Int.cast_ofNat_Int, Int.reduceEq, Int.reduceLE, Int.reduceLT, decide_eq_true_eq, decide_true, decide_false, Bool.true_eq_false, Bool.false_eq_true, Bool.not_true, Bool.not_false, stV]
      refine ⟨rfl, ?_⟩
      rw [if_neg (by decide)]
      refine ⟨117, rfl, ?_⟩
      rw [if_neg (by decide)]
      refine ⟨117, rfl, ?_⟩
      rw [if_neg (by decide)]
      refine ⟨rfl, ?_⟩
      rw [if_pos (by decide)]
      exact ⟨s1.trans sT, [], sT _ _ hL, rfl⟩
    · obtain rfl : 116 = cc := Option.some.inj hcc
      obtain rfl : fs = [] := hF
      refine ⟨_, _, rfl, .of upd_same, rfl, _, _, rfl, _, _, rfl, rfl, ?_⟩
      simp only [rd, rd2, rd3, rd4, List.getElem?_cons_zero, List.getElem?_cons_succ, Option.some.injEq, exists_eq_left', exists_eq_left, exists_and_left, exists_and_right, List.cons.injEq, V.str.injEq, V.int.injEq, V.bl.injEq, V.ref.injEq, V.ty.injEq, and_true, true_and, List.set_cons_zero, List.set_cons_succ, exists_const, exists_false, reduceCtorEq, ↓reduceIte, exists_eq, exists_eq', and_self, cxK, wipe, List.map_cons, List.map_nil, List.length_cons, List.length_nil, Nat.zero_add, Nat.reduceAdd, Int.cast_ofNat_Int, Int.reduceEq, Int.reduceLE, Int.reduceLT, decide_eq_true_eq, decide_true, decide_false, Bool.true_eq_false, Bool.false_eq_true, Bool.not_true, Bool.not_false, stV]
      refine ⟨rfl, ?_⟩
      rw [if_neg (by decide)]
      refine ⟨116, rfl, ?_⟩
      rw [if_neg (by decide)]
      refine ⟨116, rfl, ?_⟩
      rw [if_neg (by decide)]
      refine ⟨rfl, ?_⟩
      rw [if_pos (by decide)]
      exact ⟨s1.trans sT, [], sT _ _ hL, rfl⟩
    · obtain rfl : 32 = cc := Option.some.inj hcc
      obtain rfl : fs = [] := hF
      refine ⟨_, _, rfl, .of upd_same, rfl, _, _, rfl, _, _, rfl, rfl, ?_⟩
      simp only [rd, rd2, rd3, rd4, List.getElem?_cons_zero, List.getElem?_cons_succ, Option.some.injEq, exists_eq_left', exists_eq_left, exists_and_left, exists_and_right, List.cons.injEq, V.str.injEq, V.int.injEq, V.bl.injEq, V.ref.injEq, V.ty.injEq, and_true, true_and, List.set_cons_zero, List.set_cons_succ, exists_const, exists_false, reduceCtorEq, ↓reduceIte, exists_eq, exists_eq', and_self, cxK, wipe, List.map_cons, List.map_nil, List.length_cons, List.length_nil, Nat.zero_add, Nat.reduceAdd, Int.cast_ofNat_Int, Int.reduceEq, Int.reduceLE, Int.reduceLT, decide_eq_true_eq, decide_true, decide_false, Bool.true_eq_false, Bool.false_eq_true, Bool.not_true, Bool.not_false, stV]
      refine ⟨rfl, ?_⟩
      rw [if_pos (by decide)]
      refine ⟨.inl ⟨rfl, _, .of (sT _ _ hL)⟩, _, rfl, by rw [sizeLine_eq]; exact Nat.le_trans (show (txC c).length ≤ 5 from Nat.le_refl _) (by decide), by decide, fun p hp => ?_⟩
      have s2 := sT.trans (same_upd (o := .tup [.int 0, .str (cutS (txC c) (some 0) (some 3))]) hp)
      have hl2 := s2 _ _ hL
      refine ⟨l, [], .ref p, rfl, rfl, hl2, by rw [sizeLine_eq]; decide, 32, rfl, ?_⟩
      rw [if_neg (by decide)]
      refine ⟨rfl, ?_⟩
      rw [if_neg (by decide)]
      refine ⟨fun b o e => ?_, _, upd_same, p, rfl, SX.upd.tup (nt_lst hl2) (.of upd_same)⟩
      rw [upd_ne (ne_of_none e hl)]; exact s2 _ _ (s1 _ _ e)
    · obtain rfl : c = cc := Option.some.inj hcc
      obtain ⟨t1, rfl, h1⟩ := hF
      refine ⟨_, _, rfl, .of upd_same, rfl, _, _, rfl, _, _, rfl, rfl, ?_⟩
      simp only [rd, rd2, rd3, rd4, List.getElem?_cons_zero, List.getElem?_cons_succ, Option.some.injEq, exists_eq_left', exists_eq_left, exists_and_left, exists_and_right, List.cons.injEq, V.str.injEq, V.int.injEq, V.bl.injEq, V.ref.injEq, V.ty.injEq, and_true, true_and, List.set_cons_zero, List.set_cons_succ, exists_const, exists_false, reduceCtorEq, ↓reduceIte, exists_eq, exists_eq', and_self, cxK, wipe, List.map_cons, List.map_nil, List.length_cons, List.length_nil, Nat.zero_add, Nat.reduceAdd, Int.cast_ofNat_Int, Int.reduceEq, Int.reduceLE, Int.reduceLT, decide_eq_true_eq, decide_true, decide_false, Bool.true_eq_false, Bool.false_eq_true, Bool.not_true, Bool.not_false, stV]
      refine ⟨c, rfl, ?_⟩
      rw [if_neg (by rcases hc with rfl | rfl <;> decide)]
      refine ⟨rfl, ?_⟩
      rw [if_pos (by rcases hc with rfl | rfl <;> decide)]
      exact ⟨s1.trans sT, [.ref t1], sT _ _ hL, t1, rfl, same_tup sT h1⟩
    · obtain rfl : 32 = cc := Option.some.inj hcc
      obtain ⟨t1, rfl, h1⟩ := hF
      refine ⟨_, _, rfl, .of upd_same, rfl, _, _, rfl, _, _, rfl, rfl, ?_⟩
      simp only [rd, rd2, rd3, rd4, List.getElem?_cons_zero, List.getElem?_cons_succ, Option.some.injEq, exists_eq_left', exists_eq_left, exists_and_left, exists_and_right, List.cons.injEq, V.str.injEq, V.int.injEq, V.bl.injEq, V.ref.injEq, V.ty.injEq, and_true, true_and, List.set_cons_zero, List.set_cons_succ, exists_const, exists_false, reduceCtorEq, ↓reduceIte, exists_eq, exists_eq', and_self, cxK, wipe, List.map_cons, List.map_nil, List.length_cons, List.length_nil, Nat.zero_add, Nat.reduceAdd, Int.cast_ofNat_Int, Int.reduceEq, Int.reduceLE, Int.reduceLT, decide_eq_true_eq, decide_true, decide_false, Bool.true_eq_false, Bool.false_eq_true, Bool.not_true, Bool.not_false, stV]
      refine ⟨rfl, ?_⟩
      rw [if_pos (by decide)]
      refine ⟨.inl ⟨rfl, _, .of (sT _ _ hL)⟩, _, rfl, by rw [sizeLine_eq]; exact Nat.le_trans (show (txC c).length ≤ 5 from Nat.le_refl _) (by decide), by decide, fun p hp => ?_⟩
      have s2 := sT.trans (same_upd (o := .tup [.int 4, .str (cutS (txC c) (some 4) (some 5))]) hp)
      have hl2 := s2 _ _ hL
      refine ⟨l, [.ref t1], .ref p, rfl, rfl, hl2, by rw [sizeLine_eq]; simp, 32, rfl, ?_⟩
      rw [if_neg (by decide)]
      refine ⟨rfl, ?_⟩
      rw [if_neg (by decide)]
      refine ⟨fun b o e => ?_, _, upd_same, t1, p, rfl, SX.upd.tup (nt_lst hl2) (same_tup s2 h1), SX.upd.tup (nt_lst hl2) (.of upd_same)⟩
      rw [upd_ne (ne_of_none e hl)]; exact s2 _ _ (s1 _ _ e)
  · obtain ⟨s1, at_, sg, fs, rfl, hL, hF⟩ := e
    obtain ⟨t1, t2, rfl, h1, h2⟩ := hF
    simp only [rd, rd2, rd3, rd4, List.getElem?_cons_zero, List.getElem?_cons_succ, Option.some.injEq, exists_eq_left', exists_eq_left, exists_and_left, exists_and_right, List.cons.injEq, V.str.injEq, V.int.injEq, V.bl.injEq, V.ref.injEq, V.ty.injEq, and_true, true_and, List.set_cons_zero, List.set_cons_succ, exists_const, exists_false, reduceCtorEq, ↓reduceIte, exists_eq, exists_eq', and_self, cxK, wipe, List.map_cons, List.map_nil, List.length_cons, List.length_nil, Nat.zero_add, Nat.reduceAdd, Int.cast_ofNat_Int, Int.reduceEq, Int.reduceLE, Int.reduceLT, decide_eq_true_eq, decide_true, decide_false, Bool.true_eq_false, Bool.false_eq_true, Bool.not_true, Bool.not_false]
    exact hq _ _ s1 ⟨t1, t2, hL, h1, h2⟩
/-! Reader.__init__ -/
def sp_Reader__init_ (K : PySem.W.Frag) : Sp := fun vs H Q E => ∃ a dx c d, vs = [.ref a, .str (txC c), d] ∧ Fig c ∧ H a = some (.ins (He.ga K "Reader") dx []) ∧ ∀ H', SX a H H' → RdAt K H' a c 0 → Q .non H'
abbrev sc_Reader__init_N : List Str := ["self", "text", "dimension"]
theorem sc_Reader__init_ : FnScope sc_Reader__init_N ["self", "text", "dimension"] (defScope (clsS 116 0)) := ⟨rfl, rfl, rfl, by decide +kernel, rfl, by decide +kernel, by decide +kernel⟩
theorem r_Reader__init_ {P : Program} {w : World} {K : PySem.W.Frag} {mg : Str → Option Value} {base : Heap} (T : Tx w K mg) : FnR P w K mg base (L2.CX P w) 2 (He.ma K (He.ga K "Reader") "__init__") (sp_Reader__init_ K) := by
  refine mkR T.f_Reader__init_ sc_Reader__init_ (fun _ _ _ _ _ _ us hl => match us, hl with | [_, _, _], _ => rfl) (fun vs H Q E h => by obtain ⟨a, dx, c, d, rfl, hc, ha, hq⟩ := h; rfl) (fun cdv A outer s H vs Q E hr h => ?_)
  obtain ⟨a, dx, c, d, rfl, hc, ha, hq⟩ := h
  refine ⟨_, (pss_cons (ps_fd T.c_Reader T.a_Reader_tokens (pv 0) (pe_f (r_tokens_of (P := P) (w := w) (K := K) (base := base) T) T.g_tokens_of T.f_tokens_of.keep hr passL (pa_cons (pv 1) pa_nil))) (pss_cons (ps_fd T.c_Reader T.a_Reader_size (pv 0) (pe_callB call_len_str (by rfl) T.n_len boot_len (pa_cons (pv 1) pa_nil))) (pss_cons (ps_fd T.c_Reader T.a_Reader_ground (pv 0) (pv 2)) (pss_cons (ps_fd T.c_Reader T.a_Reader_at (pv 0) (pe_int)) (pss_one (ps_fd T.c_Reader T.a_Reader_opened (pv 0) (pe_int))))))), ?_⟩
  refine start_of (σ := [some (.ref a), some (.str (txC c)), some d]) rfl ?_
  simp only [rd, rd2, rd3, rd4, List.getElem?_cons_zero, List.getElem?_cons_succ, Option.some.injEq, exists_eq_left', exists_eq_left, exists_and_left, exists_and_right, List.cons.injEq, V.str.injEq, V.int.injEq, V.bl.injEq, V.ref.injEq, V.ty.injEq, and_true, true_and, List.set_cons_zero, List.set_cons_succ, exists_const, exists_false, reduceCtorEq, ↓reduceIte, exists_eq, exists_eq', and_self, cxK, wipe, List.map_cons, List.map_nil, List.length_cons, List.length_nil, Nat.zero_add, Nat.reduceAdd, Int.cast_ofNat_Int, Int.reduceEq, Int.reduceLE, Int.reduceLT, decide_eq_true_eq, decide_true, decide_false, Bool.true_eq_false, Bool.false_eq_true, Bool.not_true, Bool.not_false]
  refine ⟨c, rfl, hc, fun H1 l s1 hl => ?_⟩
  have ha1 := s1 _ _ ha
  have la : l ≠ a := by obtain ⟨t1, t2, q, _⟩ := hl; exact ne_of q ha1 (by intro z; cases z)
  refine ⟨_, _, ha1, by decide, by rw [sizeLine_eq]; exact Nat.le_trans (show (txC c).length ≤ 5 from Nat.le_refl _) (by decide), _, _, upd_same, (show (1 : Nat) < 1000 by decide), _, _, upd_same, (show (2 : Nat) < 1000 by decide), _, _, upd_same, (show (3 : Nat) < 1000 by decide), _, _, upd_same, (show (4 : Nat) < 1000 by decide), ?_⟩
  rw [upd_upd, upd_upd, upd_upd, upd_upd]
  refine hq _ ((SX.of s1).trans SX.upd) ⟨dx, l, _, d, by rw [upd_same] <;> rfl, hl.sx SX.upd (nt_ins ha1) la⟩
/-! Reader.peek -/
def sp_Reader_peek (K : PySem.W.Frag) : Sp := fun vs H Q E => ∃ a c i, vs = [.ref a] ∧ RdAt K H a c i ∧ 0 ≤ i ∧ i ≤ 2 ∧ Q (.str (if i = 0 then "put" else if i = 1 then ⟨#[c]⟩ else "")) H
abbrev sc_Reader_peekN : List Str := ["self"]
theorem sc_Reader_peek : FnScope sc_Reader_peekN ["self"] (defScope (clsS 116 1)) := ⟨rfl, rfl, rfl, by decide +kernel, rfl, by decide +kernel, by decide +kernel⟩
theorem r_Reader_peek {P : Program} {w : World} {K : PySem.W.Frag} {mg : Str → Option Value} {base : Heap} (T : Tx w K mg) : FnR P w K mg base (L2.CX P w) 1 (He.ma K (He.ga K "Reader") "peek") (sp_Reader_peek K) := by
  refine mkR T.f_Reader_peek sc_Reader_peek (fun _ _ _ _ _ _ us hl => match us, hl with | [_], _ => rfl) (fun vs H Q E h => by obtain ⟨a, c, i, rfl, ⟨dx, l, sz, g, h1, t1, t2, h2, h3, h4⟩, i0, i2, hq⟩ := h; rfl) (fun cdv A outer s H vs Q E hr h => ?_)
  obtain ⟨a, c, i, rfl, ⟨dx, l, sz, g, h1, t1, t2, h2, h3, h4⟩, i0, i2, hq⟩ := h
  refine ⟨_, (pss_one (ps_ret (pe_ifExp (pt_cmpR op_lt (pe_fd T.c_Reader T.a_Reader_at (pv 0)) (pe_callB (r := rLenS K) call_lenS (by rfl) T.n_len boot_len (pa_cons (pe_fd T.c_Reader T.a_Reader_tokens (pv 0)) pa_nil)) (nomark _)) (pe_ix (r := rIxT K) ix_tup (pe_ix (r := rIxL K) ix_list (pe_fd T.c_Reader T.a_Reader_tokens (pv 0)) (pe_fd T.c_Reader T.a_Reader_at (pv 0)) (fun _ _ => rfl)) (pe_int) (fun _ _ => rfl)) (pe_str)))), ?_⟩
  refine start_of (σ := [some (.ref a)]) rfl ?_
  simp only [rd, rd2, rd3, rd4, List.getElem?_cons_zero, List.getElem?_cons_succ, Option.some.injEq, exists_eq_left', exists_eq_left, exists_and_left, exists_and_right, List.cons.injEq, V.str.injEq, V.int.injEq, V.bl.injEq, V.ref.injEq, V.ty.injEq, and_true, true_and, List.set_cons_zero, List.set_cons_succ, exists_const, exists_false, reduceCtorEq, ↓reduceIte, exists_eq, exists_eq', and_self, cxK, wipe, List.map_cons, List.map_nil, List.length_cons, List.length_nil, Nat.zero_add, Nat.reduceAdd, Int.cast_ofNat_Int, Int.reduceEq, Int.reduceLE, Int.reduceLT, decide_eq_true_eq, decide_true, decide_false, Bool.true_eq_false, Bool.false_eq_true, Bool.not_true, Bool.not_false]
  have hi : i = 0 ∨ i = 1 ∨ i = 2 := by omega
  rcases hi with rfl | rfl | rfl
  · refine ⟨_, _, h1, _, rfl, _, _, h1, _, rfl, ?_⟩
    simp only [rd, rd2, rd3, rd4, List.getElem?_cons_zero, List.getElem?_cons_succ, Option.some.injEq, exists_eq_left', exists_eq_left, exists_and_left, exists_and_right, List.cons.injEq, V.str.injEq, V.int.injEq, V.bl.injEq, V.ref.injEq, V.ty.injEq, and_true, true_and, List.set_cons_zero, List.set_cons_succ, exists_const, exists_false, reduceCtorEq, ↓reduceIte, exists_eq, exists_eq', and_self, cxK, wipe, List.map_cons, List.map_nil, List.length_cons, List.length_nil, Nat.zero_add, Nat.reduceAdd, Int.cast_ofNat_Int, Int.reduceEq, Int.reduceLE, Int.reduceLT, decide_eq_true_eq, decide_true, decide_false, Bool.true_eq_false, Bool.false_eq_true, Bool.not_true, Bool.not_false]
    refine ⟨_, .inl (.of h2), ?_⟩
    rw [if_pos (by simp)]
    refine ⟨_, _, h1, _, rfl, _, _, h1, _, rfl, ?_⟩
    simp only [rd, rd2, rd3, rd4, List.getElem?_cons_zero, List.getElem?_cons_succ, Option.some.injEq, exists_eq_left', exists_eq_left, exists_and_left, exists_and_right, List.cons.injEq, V.str.injEq, V.int.injEq, V.bl.injEq, V.ref.injEq, V.ty.injEq, and_true, true_and, List.set_cons_zero, List.set_cons_succ, exists_const, exists_false, reduceCtorEq, ↓reduceIte, exists_eq, exists_eq', and_self, cxK, wipe, List.map_cons, List.map_nil, List.length_cons, List.length_nil, Nat.zero_add, Nat.reduceAdd, Int.cast_ofNat_Int, Int.reduceEq, Int.reduceLE, Int.reduceLT, decide_eq_true_eq, decide_true, decide_false, Bool.true_eq_false, Bool.false_eq_true, Bool.not_true, Bool.not_false]
    refine ⟨_, .of h2, _, rfl, ?_⟩
    simp only [rd, rd2, rd3, rd4, List.getElem?_cons_zero, List.getElem?_cons_succ, Option.some.injEq, exists_eq_left', exists_eq_left, exists_and_left, exists_and_right, List.cons.injEq, V.str.injEq, V.int.injEq, V.bl.injEq, V.ref.injEq, V.ty.injEq, and_true, true_and, List.set_cons_zero, List.set_cons_succ, exists_const, exists_false, reduceCtorEq, ↓reduceIte, exists_eq, exists_eq', and_self, cxK, wipe, List.map_cons, List.map_nil, List.length_cons, List.length_nil, Nat.zero_add, Nat.reduceAdd, Int.cast_ofNat_Int, Int.reduceEq, Int.reduceLE, Int.reduceLT, decide_eq_true_eq, decide_true, decide_false, Bool.true_eq_false, Bool.false_eq_true, Bool.not_true, Bool.not_false]
    exact ⟨_, h3, _, rfl, hq⟩
  · refine ⟨_, _, h1, _, rfl, _, _, h1, _, rfl, ?_⟩
    simp only [rd, rd2, rd3, rd4, List.getElem?_cons_zero, List.getElem?_cons_succ, Option.some.injEq, exists_eq_left', exists_eq_left, exists_and_left, exists_and_right, List.cons.injEq, V.str.injEq, V.int.injEq, V.bl.injEq, V.ref.injEq, V.ty.injEq, and_true, true_and, List.set_cons_zero, List.set_cons_succ, exists_const, exists_false, reduceCtorEq, ↓reduceIte, exists_eq, exists_eq', and_self, cxK, wipe, List.map_cons, List.map_nil, List.length_cons, List.length_nil, Nat.zero_add, Nat.reduceAdd, Int.cast_ofNat_Int, Int.reduceEq, Int.reduceLE, Int.reduceLT, decide_eq_true_eq, decide_true, decide_false, Bool.true_eq_false, Bool.false_eq_true, Bool.not_true, Bool.not_false]
    refine ⟨_, .inl (.of h2), ?_⟩
    rw [if_pos (by simp)]
    refine ⟨_, _, h1, _, rfl, _, _, h1, _, rfl, ?_⟩
    simp only [rd, rd2, rd3, rd4, List.getElem?_cons_zero, List.getElem?_cons_succ, Option.some.injEq, exists_eq_left', exists_eq_left, exists_and_left, exists_and_right, List.cons.injEq, V.str.injEq, V.int.injEq, V.bl.injEq, V.ref.injEq, V.ty.injEq, and_true, true_and, List.set_cons_zero, List.set_cons_succ, exists_const, exists_false, reduceCtorEq, ↓reduceIte, exists_eq, exists_eq', and_self, cxK, wipe, List.map_cons, List.map_nil, List.length_cons, List.length_nil, Nat.zero_add, Nat.reduceAdd, Int.cast_ofNat_Int, Int.reduceEq, Int.reduceLE, Int.reduceLT, decide_eq_true_eq, decide_true, decide_false, Bool.true_eq_false, Bool.false_eq_true, Bool.not_true, Bool.not_false]
    refine ⟨_, .of h2, _, rfl, ?_⟩
    simp only [rd, rd2, rd3, rd4, List.getElem?_cons_zero, List.getElem?_cons_succ, Option.some.injEq, exists_eq_left', exists_eq_left, exists_and_left, exists_and_right, List.cons.injEq, V.str.injEq, V.int.injEq, V.bl.injEq, V.ref.injEq, V.ty.injEq, and_true, true_and, List.set_cons_zero, List.set_cons_succ, exists_const, exists_false, reduceCtorEq, ↓reduceIte, exists_eq, exists_eq', and_self, cxK, wipe, List.map_cons, List.map_nil, List.length_cons, List.length_nil, Nat.zero_add, Nat.reduceAdd, Int.cast_ofNat_Int, Int.reduceEq, Int.reduceLE, Int.reduceLT, decide_eq_true_eq, decide_true, decide_false, Bool.true_eq_false, Bool.false_eq_true, Bool.not_true, Bool.not_false]
    exact ⟨_, h4, _, rfl, hq⟩
  · refine ⟨_, _, h1, _, rfl, _, _, h1, _, rfl, ?_⟩
    simp only [rd, rd2, rd3, rd4, List.getElem?_cons_zero, List.getElem?_cons_succ, Option.some.injEq, exists_eq_left', exists_eq_left, exists_and_left, exists_and_right, List.cons.injEq, V.str.injEq, V.int.injEq, V.bl.injEq, V.ref.injEq, V.ty.injEq, and_true, true_and, List.set_cons_zero, List.set_cons_succ, exists_const, exists_false, reduceCtorEq, ↓reduceIte, exists_eq, exists_eq', and_self, cxK, wipe, List.map_cons, List.map_nil, List.length_cons, List.length_nil, Nat.zero_add, Nat.reduceAdd, Int.cast_ofNat_Int, Int.reduceEq, Int.reduceLE, Int.reduceLT, decide_eq_true_eq, decide_true, decide_false, Bool.true_eq_false, Bool.false_eq_true, Bool.not_true, Bool.not_false]
    refine ⟨_, .inl (.of h2), ?_⟩
    rw [if_neg (by simp)]
    exact hq
/-! Reader.read_number -/
def sp_Reader_read_number (K : PySem.W.Frag) : Sp := fun vs H Q E => ∃ a c, vs = [.ref a] ∧ Fig c ∧ RdAt K H a c 1 ∧ ∀ H', SX a H H' → RdAt K H' a c 2 → Q (.int (if c = 49 then 1 else 2)) H'
abbrev sc_Reader_read_numberN : List Str := ["self", "word"]
theorem sc_Reader_read_number : FnScope sc_Reader_read_numberN ["self"] (defScope (clsS 116 4)) := ⟨rfl, rfl, rfl, by decide +kernel, rfl, by decide +kernel, by decide +kernel⟩
theorem r_Reader_read_number {P : Program} {w : World} {K : PySem.W.Frag} {mg : Str → Option Value} {base : Heap} (T : Tx w K mg) : FnR P w K mg base (L2.CX P w) 2 (He.ma K (He.ga K "Reader") "read_number") (sp_Reader_read_number K) := by
  refine mkR T.f_Reader_read_number sc_Reader_read_number (fun _ _ _ _ _ _ us hl => match us, hl with | [_], _ => rfl) (fun vs H Q E h => by obtain ⟨a, c, rfl, hc, hr1, hq⟩ := h; rfl) (fun cdv A outer s H vs Q E hr h => ?_)
  obtain ⟨a, c, rfl, hc, hr1, hq⟩ := h
  obtain ⟨dx, l, sz, g, h1, h2⟩ := id hr1
  refine ⟨_, (pss_cons (ps_set (i := 1) sc_Reader_read_number.nd rfl (Or.inl rfl) (pe_m0 (pv 0) (r_Reader_peek (P := P) (w := w) (K := K) (base := base) T) T.c_Reader T.t_Reader_peek hr passL)) (pss_cons (ps_if (pt_not (pt_val (pe_f (r_is_number (P := P) (w := w) (K := K) (base := base) T) T.g_is_number T.f_is_number.keep hr passL (pa_cons (pv 1) pa_nil)))) (pss_one ps_never) pss_nil) (pss_cons (ps_fldaug (pv 0) (pe_int) in_add) (pss_one (ps_ret (pe_callTy call_int_str (by rfl) T.n_int (by decide +kernel) (pa_cons (pv 1) pa_nil))))))), ?_⟩
  refine start_of (σ := [some (.ref a), none]) rfl ?_
  simp only [rd, rd2, rd3, rd4, List.getElem?_cons_zero, List.getElem?_cons_succ, Option.some.injEq, exists_eq_left', exists_eq_left, exists_and_left, exists_and_right, List.cons.injEq, V.str.injEq, V.int.injEq, V.bl.injEq, V.ref.injEq, V.ty.injEq, and_true, true_and, List.set_cons_zero, List.set_cons_succ, exists_const, exists_false, reduceCtorEq, ↓reduceIte, exists_eq, exists_eq', and_self, cxK, wipe, List.map_cons, List.map_nil, List.length_cons, List.length_nil, Nat.zero_add, Nat.reduceAdd, Int.cast_ofNat_Int, Int.reduceEq, Int.reduceLE, Int.reduceLT, decide_eq_true_eq, decide_true, decide_false, Bool.true_eq_false, Bool.false_eq_true, Bool.not_true, Bool.not_false]
  refine ⟨_, _, h1, rfl, a, c, 1, rfl, hr1, by decide, by decide, ?_⟩
  refine ⟨c, rfl, hc, fun H1 s1 => ⟨true, rfl, ?_⟩⟩
  rw [if_neg (by decide)]
  have h1' := s1 _ _ h1
  refine ⟨_, rfl, a, _, dx, _, _, rfl, h1', T.c_Reader, T.a_Reader_at, rfl, ?_⟩
  refine ⟨1, 1, rfl, rfl, dx, _, h1', by simp, ?_⟩
  have la : l ≠ a := by obtain ⟨t1, t2, q, _⟩ := h2; exact ne_of q h1 (by intro z; cases z)
  have sx : SX a H (upd H1 a (.ins (He.ga K "Reader") dx (putF "at" (.int (1 + 1)) [("tokens", .ref l), ("size", sz), ("ground", g), ("at", .int 1), ("opened", .int 0)]))) := (SX.of s1).trans SX.upd
  have fin := hq _ sx ⟨dx, l, sz, g, by rw [upd_same] <;> rfl, h2.sx sx (nt_ins h1) la⟩
  rcases hc with rfl | rfl
  · exact ⟨_, rfl, _, rfl, 1, (show PySem.intText? ⟨#[49]⟩ = some 1 by decide +kernel), (show (1 : Nat) ≤ 640 by decide), fin⟩
  · exact ⟨_, rfl, _, rfl, 2, (show PySem.intText? ⟨#[50]⟩ = some 2 by decide +kernel), (show (1 : Nat) ≤ 640 by decide), fin⟩
/-! take -/
def sp_Reader_take0 (K : PySem.W.Frag) : Sp := fun vs H Q E => ∃ a p c, vs = [.ref a, .ref p] ∧ SqT K H p [.str "go", .str "put", .str "do", .str "undo", .str "repeat"] ∧ RdAt K H a c 0 ∧ ∀ H', SX a H H' → RdAt K H' a c 1 → Q (.str "put") H'
def sp_Reader_take (K : PySem.W.Frag) : Sp := fun vs H Q E => ∃ a c, vs = [.ref a, .str "go", .str "put", .str "do", .str "undo", .str "repeat"] ∧ RdAt K H a c 0 ∧ ∀ H', SX a H H' → RdAt K H' a c 1 → Q (.str "put") H'
abbrev sc_Reader_takeN : List Str := ["self", "words", "word"]
theorem sc_Reader_take : FnScope sc_Reader_takeN ["self", "words"] (defScope (clsS 116 3)) := ⟨rfl, rfl, rfl, by decide +kernel, rfl, by decide +kernel, by decide +kernel⟩
theorem r_Reader_take {P : Program} {w : World} {K : PySem.W.Frag} {mg : Str → Option Value} {base : Heap} (T : Tx w K mg) : FnR P w K mg base (L2.CX P w) 2 (He.ma K (He.ga K "Reader") "take") (sp_Reader_take K) := by
  refine (mkRs (ps := ["self"]) (pv := "words") (sp := sp_Reader_take0 K) T.f_Reader_take sc_Reader_take (fun kV doc pm an cdv ct => StX.bind_star1 (B := fun us => bindArgs (PySem.W.fnOf "take" "Reader.take" (defArgs (clsS 116 3)) (defBody (clsS 116 3)) (defScope (clsS 116 3)) .none kV doc pm an cdv ct) ⟨us, []⟩) (fun _ => rfl) (fun _ _ _ => rfl)) (fun cdv A outer s H vs Q E hr h => ?_)).imp fun vs H Q E h => ?_
  · obtain ⟨a, p, c, rfl, hp, hr1, hq⟩ := h
    obtain ⟨dx, l, sz, g, h1, h2⟩ := id hr1
    refine ⟨_, (pss_cons (ps_set (i := 2) sc_Reader_take.nd rfl (Or.inl rfl) (pe_m0 (pv 0) (r_Reader_peek (P := P) (w := w) (K := K) (base := base) T) T.c_Reader T.t_Reader_peek hr passL)) (pss_cons (ps_if (PW.pt (pw_or (pt_cmpR (r := rIn K true) op_notIn_seq (pv 2) (pv 1) (by rfl)) (pw_or1 (pt_cmpR op_eq (pv 2) (pe_str) (nomark _))))) (pss_one ps_never) pss_nil) (pss_cons (ps_fldaug (pv 0) (pe_int) in_add) (pss_one (ps_ret (pv 2)))))), ?_⟩
    refine start_of (σ := [some (.ref a), some (.ref p), none]) rfl ?_
    simp only [rd, rd2, rd3, rd4, List.getElem?_cons_zero, List.getElem?_cons_succ, Option.some.injEq, exists_eq_left', exists_eq_left, exists_and_left, exists_and_right, List.cons.injEq, V.str.injEq, V.int.injEq, V.bl.injEq, V.ref.injEq, V.ty.injEq, and_true, true_and, List.set_cons_zero, List.set_cons_succ, exists_const, exists_false, reduceCtorEq, ↓reduceIte, exists_eq, exists_eq', and_self, cxK, wipe, List.map_cons, List.map_nil, List.length_cons, List.length_nil, Nat.zero_add, Nat.reduceAdd, Int.cast_ofNat_Int, Int.reduceEq, Int.reduceLE, Int.reduceLT, decide_eq_true_eq, decide_true, decide_false, Bool.true_eq_false, Bool.false_eq_true, Bool.not_true, Bool.not_false]
    refine ⟨_, _, h1, rfl, a, c, 0, rfl, hr1, by decide, by decide, ?_⟩
    rw [if_pos (rfl : (0 : Int) = 0)]
    refine ⟨_, .inr hp, rfl, rfl, ?_⟩
    rw [if_neg (by decide)]
    refine ⟨rfl, ?_⟩
    rw [if_neg (by decide)]
    refine ⟨_, rfl, a, _, dx, _, _, rfl, h1, T.c_Reader, T.a_Reader_at, rfl, ?_⟩
    refine ⟨0, 1, rfl, rfl, dx, _, h1, by simp, ?_⟩
    have la : l ≠ a := by obtain ⟨t1, t2, q, _⟩ := h2; exact ne_of q h1 (by intro z; cases z)
    have sx : SX a H (upd H a (.ins (He.ga K "Reader") dx (putF "at" (.int (0 + 1)) [("tokens", .ref l), ("size", sz), ("ground", g), ("at", .int 0), ("opened", .int 0)]))) := SX.upd
    exact ⟨_, rfl, hq _ sx ⟨dx, l, sz, g, by rw [upd_same] <;> rfl, h2.sx sx (nt_ins h1) la⟩⟩
  · obtain ⟨a, c, rfl, hr1, hq⟩ := h
    exact ⟨[.ref a], _, rfl, rfl, by rw [sizeLine_eq]; decide, fun p hp => ⟨a, p, c, rfl, .of upd_same, hr1.same (same_upd hp), fun H' sx hr2 => hq _ ((SX.of (same_upd hp)).trans sx) hr2⟩⟩
/-! Reader.read_statement -/
def sp_Reader_read_statement (K : PySem.W.Frag) : Sp := fun vs H Q E => ∃ a c, vs = [.ref a] ∧ Fig c ∧ RdAt K H a c 0 ∧ ∀ H' t, SX a H H' → RdAt K H' a c 2 → PutAt K H' t (if c = 49 then 1 else 2) → Q (.ref t) H'
abbrev sc_Reader_read_statementN : List Str := ["self", "word", "times", "inner", "k"]
theorem sc_Reader_read_statement : FnScope sc_Reader_read_statementN ["self"] (defScope (clsS 116 6)) := ⟨rfl, rfl, rfl, by decide +kernel, rfl, by decide +kernel, by decide +kernel⟩
theorem r_Reader_read_statement {P : Program} {w : World} {K : PySem.W.Frag} {mg : Str → Option Value} {base : Heap} (T : Tx w K mg) : FnR P w K mg base (L2.CX P w) 3 (He.ma K (He.ga K "Reader") "read_statement") (sp_Reader_read_statement K) := by
  refine mkR T.f_Reader_read_statement sc_Reader_read_statement (fun _ _ _ _ _ _ us hl => match us, hl with | [_], _ => rfl) (fun vs H Q E h => by obtain ⟨a, c, rfl, hc, hr1, hq⟩ := h; rfl) (fun cdv A outer s H vs Q E hr h => ?_)
  obtain ⟨a, c, rfl, hc, hr1, hq⟩ := h
  obtain ⟨dx, l, sz, g, h1, h2⟩ := id hr1
  refine ⟨_, (pss_cons (ps_set (i := 1) sc_Reader_read_statement.nd rfl (Or.inl rfl) (pe_m (pv 0) (r_Reader_take (P := P) (w := w) (K := K) (base := base) T) T.c_Reader T.t_Reader_take hr passL (pa_cons (pe_str) (pa_cons (pe_str) (pa_cons (pe_str) (pa_cons (pe_str) (pa_cons (pe_str) pa_nil))))))) (pss_cons (ps_if (pt_cmpR op_eq (pv 1) (pe_str) (nomark _)) (pss_one ps_never) pss_nil) (pss_cons (ps_if (pt_cmpR op_eq (pv 1) (pe_str) (nomark _)) (pss_one (ps_ret (pe_tup (pa_cons (pe_str) (pa_cons (pe_m0 (pv 0) (r_Reader_read_number (P := P) (w := w) (K := K) (base := base) T) T.c_Reader T.t_Reader_read_number hr passL) pa_nil))))) pss_nil) (pss_cons (ps_if (pt_cmpR op_ne (pv 1) (pe_str) (nomark _)) (pss_one ps_never) pss_nil) (pss_cons ps_never (pss_cons ps_never (pss_cons ps_never (pss_cons ps_never (pss_cons ps_never (pss_cons ps_never (pss_cons ps_never (pss_one ps_never)))))))))))), ?_⟩
  refine start_of (σ := [some (.ref a), none, none, none, none]) rfl ?_
  simp only [rd, rd2, rd3, rd4, List.getElem?_cons_zero, List.getElem?_cons_succ, Option.some.injEq, exists_eq_left', exists_eq_left, exists_and_left, exists_and_right, List.cons.injEq, V.str.injEq, V.int.injEq, V.bl.injEq, V.ref.injEq, V.ty.injEq, and_true, true_and, List.set_cons_zero, List.set_cons_succ, exists_const, exists_false, reduceCtorEq, ↓reduceIte, exists_eq, exists_eq', and_self, cxK, wipe, List.map_cons, List.map_nil, List.length_cons, List.length_nil, Nat.zero_add, Nat.reduceAdd, Int.cast_ofNat_Int, Int.reduceEq, Int.reduceLE, Int.reduceLT, decide_eq_true_eq, decide_true, decide_false, Bool.true_eq_false, Bool.false_eq_true, Bool.not_true, Bool.not_false]
  refine ⟨_, _, h1, rfl, a, c, rfl, hr1, fun H1 sx hr2 => ?_⟩
  simp only [rd, rd2, rd3, rd4, List.getElem?_cons_zero, List.getElem?_cons_succ, Option.some.injEq, exists_eq_left', exists_eq_left, exists_and_left, exists_and_right, List.cons.injEq, V.str.injEq, V.int.injEq, V.bl.injEq, V.ref.injEq, V.ty.injEq, and_true, true_and, List.set_cons_zero, List.set_cons_succ, exists_const, exists_false, reduceCtorEq, ↓reduceIte, exists_eq, exists_eq', and_self, cxK, wipe, List.map_cons, List.map_nil, List.length_cons, List.length_nil, Nat.zero_add, Nat.reduceAdd, Int.cast_ofNat_Int, Int.reduceEq, Int.reduceLE, Int.reduceLT, decide_eq_true_eq, decide_true, decide_false, Bool.true_eq_false, Bool.false_eq_true, Bool.not_true, Bool.not_false, sNe]
  obtain ⟨dx2, l2, sz2, g2, e1, e2⟩ := id hr2
  exact ⟨_, _, e1, rfl, a, c, rfl, hc, hr2, fun H2 sx2 hr3 => ⟨by decide, fun p hp => hq _ p (sx.trans (sx2.trans (SX.of (same_upd hp)))) (hr3.same (same_upd hp)) ⟨.of upd_same, by split <;> simp⟩⟩⟩
/-! Reader.read_block -/
def sp_Reader_read_block (K : PySem.W.Frag) : Sp := fun vs H Q E => ∃ a c, vs = [.ref a, .str ""] ∧ Fig c ∧ RdAt K H a c 0 ∧ ∀ H' v, SX a H H' → BlkAt K H' v (some (if c = 49 then 1 else 2)) → Q v H'
abbrev sc_Reader_read_blockN : List Str := ["self", "end", "found"]
theorem sc_Reader_read_block : FnScope sc_Reader_read_blockN ["self", "end"] (defScope (clsS 116 7)) := ⟨rfl, rfl, rfl, by decide +kernel, rfl, by decide +kernel, by decide +kernel⟩
theorem r_Reader_read_block {P : Program} {w : World} {K : PySem.W.Frag} {mg : Str → Option Value} {base : Heap} (T : Tx w K mg) : FnR P w K mg base (L2.CX P w) 4 (He.ma K (He.ga K "Reader") "read_block") (sp_Reader_read_block K) := by
  refine mkR T.f_Reader_read_block sc_Reader_read_block (fun _ _ _ _ _ _ us hl => match us, hl with | [_, _], _ => rfl) (fun vs H Q E h => by obtain ⟨a, c, rfl, hc, hr1, hq⟩ := h; rfl) (fun cdv A outer s H vs Q E hr h => ?_)
  obtain ⟨a, c, rfl, hc, hr1, hq⟩ := h
  obtain ⟨dx, l, sz, g, h1, h2⟩ := id hr1
  refine ⟨_, (pss_cons (ps_set (i := 2) sc_Reader_read_block.nd rfl (Or.inl rfl) (pe_lst pa_nil)) (pss_cons (ps_if (pt_cmpR op_eq (pe_m0 (pv 0) (r_Reader_peek (P := P) (w := w) (K := K) (base := base) T) T.c_Reader T.t_Reader_peek hr passL) (pv 1) (nomark _)) (pss_one ps_never) pss_nil) (pss_cons (ps_expr (pe_bm PySem.F.plainAttrs_list PySem.F.slot_list_append PySem.F.type_list_append mt_append (pv 2) (pa_cons (pe_m0 (pv 0) (r_Reader_read_statement (P := P) (w := w) (K := K) (base := base) T) T.c_Reader T.t_Reader_read_statement hr passL) pa_nil))) (pss_cons (ps_while (passes_of rfl) (pt_cmpR op_ne (pe_m0 (pv 0) (r_Reader_peek (P := P) (w := w) (K := K) (base := base) T) T.c_Reader T.t_Reader_peek hr passL) (pv 1) (nomark _)) (pss_cons ps_never (pss_one (ps_expr (pe_bm PySem.F.plainAttrs_list PySem.F.slot_list_append PySem.F.type_list_append mt_append (pv 2) (pa_cons (pe_m0 (pv 0) (r_Reader_read_statement (P := P) (w := w) (K := K) (base := base) T) T.c_Reader T.t_Reader_read_statement hr passL) pa_nil)))))) (pss_one (ps_ret (pe_callTy (r := rTupOf K) call_tupS (by rfl) T.n_tuple (by decide +kernel) (pa_cons (pv 2) pa_nil)))))))), ?_⟩
  refine start_of (σ := [some (.ref a), some (.str ""), none]) rfl ?_
  simp only [rd, rd2, rd3, rd4, List.getElem?_cons_zero, List.getElem?_cons_succ, Option.some.injEq, exists_eq_left', exists_eq_left, exists_and_left, exists_and_right, List.cons.injEq, V.str.injEq, V.int.injEq, V.bl.injEq, V.ref.injEq, V.ty.injEq, and_true, true_and, List.set_cons_zero, List.set_cons_succ, exists_const, exists_false, reduceCtorEq, ↓reduceIte, exists_eq, exists_eq', and_self, cxK, wipe, List.map_cons, List.map_nil, List.length_cons, List.length_nil, Nat.zero_add, Nat.reduceAdd, Int.cast_ofNat_Int, Int.reduceEq, Int.reduceLE, Int.reduceLT, decide_eq_true_eq, decide_true, decide_false, Bool.true_eq_false, Bool.false_eq_true, Bool.not_true, Bool.not_false]
  refine ⟨Nat.zero_le _, fun l2 hl2 => ?_⟩
  have s0 := same_upd (o := .lst []) hl2
  have hr1' := hr1.same s0
  refine ⟨_, _, s0 _ _ h1, rfl, a, c, 0, rfl, hr1', by decide, by decide, ?_⟩
  rw [if_pos (rfl : (0 : Int) = 0)]
  refine ⟨rfl, ?_⟩
  rw [if_neg (by decide)]
  refine ⟨.inl ⟨rfl, _, .of upd_same⟩, _, _, s0 _ _ h1, rfl, a, c, rfl, hc, hr1', fun H1 t sx hr3 ht => ?_⟩
  have la : l2 ≠ a := fun q => by rw [q, h1] at hl2; cases hl2
  have hl1 := sx _ _ upd_same la
  refine ⟨l2, [], .ref t, rfl, rfl, hl1, by rw [sizeLine_eq]; decide, ?_⟩
  obtain ⟨G, hG⟩ : ∃ G, G = upd H1 l2 (.lst ([] ++ [.ref t])) := ⟨_, rfl⟩
  rw [← hG]
  obtain ⟨dx2, l3, sz2, g2, e1, e2⟩ := id hr3
  have n3 : l3 ≠ l2 := fun q => by
    obtain ⟨t1, t2, q2, _⟩ := e2
    rw [q, hl1] at q2; cases q2
  have hrG : RdAt K G a c 2 := ⟨dx2, l3, sz2, g2, by rw [hG, upd_ne la.symm]; exact e1, by rw [hG]; exact e2.sx SX.upd (nt_lst hl1) n3⟩
  have htG : PutAt K G t (if c = 49 then 1 else 2) := by rw [hG]; exact ht.sx SX.upd (nt_lst hl1)
  have hlG : G l2 = some (.lst [.ref t]) := by rw [hG, upd_same] <;> rfl
  have sxG : SX a H G := fun b o e n => by
    rw [hG, upd_ne (ne_of_none e hl2)]; exact sx _ _ (s0 _ _ e) n
  have haG : G a = some (.ins (He.ga K "Reader") dx2 [("tokens", .ref l3), ("size", sz2), ("ground", g2), ("at", .int 2), ("opened", .int 0)]) := by rw [hG, upd_ne la.symm]; exact e1
  refine ⟨fun m σ H' => σ = [some (.ref a), some (.str ""), some (.ref l2)] ∧ H' = G, ⟨0, rfl, rfl⟩, fun m σ H' e => ?_⟩
  obtain ⟨rfl, rfl⟩ := e
  simp only [rd, rd2, rd3, rd4, List.getElem?_cons_zero, List.getElem?_cons_succ, Option.some.injEq, exists_eq_left', exists_eq_left, exists_and_left, exists_and_right, List.cons.injEq, V.str.injEq, V.int.injEq, V.bl.injEq, V.ref.injEq, V.ty.injEq, and_true, true_and, List.set_cons_zero, List.set_cons_succ, exists_const, exists_false, reduceCtorEq, ↓reduceIte, exists_eq, exists_eq', and_self, cxK, wipe, List.map_cons, List.map_nil, List.length_cons, List.length_nil, Nat.zero_add, Nat.reduceAdd, Int.cast_ofNat_Int, Int.reduceEq, Int.reduceLE, Int.reduceLT, decide_eq_true_eq, decide_true, decide_false, Bool.true_eq_false, Bool.false_eq_true, Bool.not_true, Bool.not_false]
  refine ⟨_, _, haG, rfl, a, c, 2, rfl, hrG, by decide, by decide, ?_⟩
  rw [if_neg (by decide), if_neg (by decide)]
  refine ⟨rfl, ?_⟩
  rw [if_neg (by decide)]
  refine ⟨_, .of hlG, fun q hq2 => hq _ _ (sxG.trans (SX.of (same_upd hq2))) ⟨q, _, rfl, .of upd_same, t, rfl, htG.same (same_upd hq2)⟩⟩
/-! parse_block -/
def sp_parse_block (K : PySem.W.Frag) : Sp := fun vs H Q E => ∃ c d, vs = [.str (txC c), d] ∧ Fig c ∧ ∀ H' v, Same H H' → BlkAt K H' v (some (if c = 49 then 1 else 2)) → Q v H'
abbrev sc_parse_blockN : List Str := ["text", "dimension", "block"]
theorem sc_parse_block : FnScope sc_parse_blockN ["text", "dimension"] (defScope (topS 117)) := ⟨rfl, rfl, rfl, by decide +kernel, rfl, by decide +kernel, by decide +kernel⟩
theorem r_parse_block {P : Program} {w : World} {K : PySem.W.Frag} {mg : Str → Option Value} {base : Heap} (T : Tx w K mg) : FnR P w K mg base (L2.CX P w) 6 (He.ga K "parse_block") (sp_parse_block K) := by
  refine mkR T.f_parse_block sc_parse_block (fun _ _ _ _ _ _ us hl => match us, hl with | [_, _], _ => rfl) (fun vs H Q E h => by obtain ⟨c, d, rfl, hc, hq⟩ := h; rfl) (fun cdv A outer s H vs Q E hr h => ?_)
  obtain ⟨c, d, rfl, hc, hq⟩ := h
  refine ⟨_, (pss_cons (ps_set (i := 2) sc_parse_block.nd rfl (Or.inl rfl) (pe_m (pe_mk T.m_Reader (r_Reader__init_ (P := P) (w := w) (K := K) (base := base) T) hr (by rfl) T.g_Reader passL (pa_cons (pv 0) (pa_cons (pv 1) pa_nil))) (r_Reader_read_block (P := P) (w := w) (K := K) (base := base) T) T.c_Reader T.t_Reader_read_block hr passL (pa_cons (pe_str) pa_nil))) (pss_cons (ps_expr (pe_f (r_check_block (P := P) (w := w) (K := K) (base := base) T) T.g_check_block T.f_check_block.keep hr passL (pa_cons (pv 2) (pa_cons (pv 1) pa_nil)))) (pss_one (ps_ret (pv 2))))), ?_⟩
  refine start_of (σ := [some (.str (txC c)), some d, none]) rfl ?_
  simp only [rd, rd2, rd3, rd4, List.getElem?_cons_zero, List.getElem?_cons_succ, Option.some.injEq, exists_eq_left', exists_eq_left, exists_and_left, exists_and_right, List.cons.injEq, V.str.injEq, V.int.injEq, V.bl.injEq, V.ref.injEq, V.ty.injEq, and_true, true_and, List.set_cons_zero, List.set_cons_succ, exists_const, exists_false, reduceCtorEq, ↓reduceIte, exists_eq, exists_eq', and_self, cxK, wipe, List.map_cons, List.map_nil, List.length_cons, List.length_nil, Nat.zero_add, Nat.reduceAdd, Int.cast_ofNat_Int, Int.reduceEq, Int.reduceLE, Int.reduceLT, decide_eq_true_eq, decide_true, decide_false, Bool.true_eq_false, Bool.false_eq_true, Bool.not_true, Bool.not_false]
  intro n dd h1 h2 h3
  have sm := same_made (C := He.ga K "Reader") h1 h2
  refine ⟨n, dd, c, d, rfl, hc, upd_same, fun H1 sx hr1 => ⟨rfl, ?_⟩⟩
  have s1 := same_sx h1 sm sx
  obtain ⟨dx, l, sz, g, e1, e2⟩ := id hr1
  refine ⟨_, _, e1, rfl, n, c, rfl, hc, hr1, fun H2 v sx2 hb => ?_⟩
  have s2 := same_sx h1 s1 sx2
  exact ⟨v, _, d, rfl, hb, fun H3 s3 => hq _ _ (s2.trans s3) (hb.same s3)⟩
end Sf

/-! ### a desk -/
namespace Sf
open PySem PySem.Spec PyProof.Rows L2
/-- o.m(e, ..) in a try's body: what is raised is told with the slots as they stand -/
def tMthS (C : Addr) (m : Str) (sp : Sp) (E : L2.St → XK) (ta : TE) (t : TA) : TE := fun σ H Q => ta σ H fun x H1 => ∃ a dx fs, x = .ref a ∧ H1 a = some (.ins C dx fs) ∧ fs.lookup m = none ∧ t σ H1 fun vs H2 => sp (x :: vs) H2 Q (E σ)
section
variable {X : Cx} {k j : Nat} {C f : Addr} {m : Str} {sp : Sp} {pos apos : Pos} {e o : Expr} {es : List Expr} {ta : TE} {t : TA}
theorem pe_mS {E : L2.St → XK} {pl : Sem Bool} (he : PE X o ta) (F : FnR X.prog X.w X.K X.mg X.base (L2.CX X.prog X.w) k f sp) (c : Cls X.K C) (hm : Meth X.K C m f) (hr : Room j X.A) (hx : ∀ σ, PassesAt (L2.CX X.prog X.w) X σ (E σ)) (ha : PA X (e :: es) t)
    (hj : k ≤ j := by decide) (hst : starEach (e :: es) X.env = (false, eval e X.env) :: starEach es X.env := by rfl) (hpl : (backTo pos (starEach es X.env)).any (·.1) = false := by rfl)
    (ht : eval (.Call (.Attribute o m apos) (e :: es) [] pos) X.env = (do
      let ov ← eval o X.env; standAt apos.atName
      let (f, first) ← holding [ov] (getMethod ov m pl); callWith pos f first (backTo pos (starEach (e :: es) X.env)) (backToKw pos (keywordEach [] X.env))) := by rfl) :
    PE X (.Call (.Attribute o m apos) (e :: es) [] pos) (tMthS C m sp E ta t) := by
  refine ⟨fun pins s σ H Q I h => PySem.W.methodCall_KW (pl := pl) (thn (he.run pins s σ H _ I h) fun u s1 z => ?_) ht⟩
  obtain ⟨x, H1, I1, rx, a, dx, fs, ex, ea, l, q⟩ := z
  subst ex
  obtain rfl : u = Value.ref a := rx
  refine getmeth_ok I1 ea c hm l (PySem.W.callWith_K (first := [.ref a]) (h₀ := X.base) I.ok.mod.kin hm.kp (thn (ha.run pos pins s1 σ H1 _ I1 q) fun us s2 z2 => ?_) hst hpl)
  obtain ⟨vs, H2, I2, r, q2⟩ := z2
  refine ⟨I2.kIn, wpAny_call (codeAny_mono (F X.A X.stack s2 H2 (.ref a :: us) (.ref a :: vs) Q (E σ) (hr.mono hj) I2.env0 (.cons rfl r) q2) fun b s3 z3 => ?_)⟩
  cases b with
  | error er => exact hx σ pins H2 s2 er s3 I2 z3
  | ok fl =>
    cases fl with
    | ret u => exact I2.after z3
    | next => exact z3.elim
    | brk => exact z3.elim
    | cont => exact z3.elim
end
theorem pe_xt {X : Cx} {a C : Addr} {oe : Obj} {cls : Value} {d : Option Addr} {pn : List (Addr × Obj)} {e : Expr} {te : TE} {pos : Pos} {n : Str} (T : XfC X.K C) (hno : NoAttr X.K C n) (hz : Zc cls d oe) (hf : ∃ vs, oe.data = .fields vs) (he : PE (X.suite a ((a, oe) :: pn)) e te)
    (hb : attributeBase e n X.env (eval e X.env) = eval e X.env := by rfl) : PE (X.suite a ((a, oe) :: pn)) (.Attribute e n pos) (tXf a cls d C n te) := pe_xf T hno hz hf he hb
def rNotKd (K : PySem.W.Frag) (d : Addr) : R2 := fun x y H Q => ∃ (z : Str) (r : Option Value), x = .str z ∧ y = .ref d ∧ PySem.W.nsIn K d z = some r ∧ Q (.bl (!r.isSome)) H
def rIxKd (K : PySem.W.Frag) (d : Addr) : R2 := fun x y H Q => ∃ (z : Str) (u0 : Value) (v0 : V), x = .ref d ∧ y = .str z ∧ PySem.W.nsIn K d z = some (some u0) ∧ RelV v0 u0 ∧ Q v0 H
theorem op_notKd {X : Cx} {K : PySem.W.Frag} {w : World} {d : Addr} {es : Array DictEntry} {n : Nat} (D : KDict K w d es n) (hK : X.K = K := by rfl) (hw : X.w = w := by rfl) : OpR X (compareOp .NotIn) (rNotKd K d) := by
  subst hK hw; exact op_notIn_kd D
theorem ix_kdK {X : Cx} {K : PySem.W.Frag} {w : World} {d : Addr} {es : Array DictEntry} {n : Nat} (D : KDict K w d es n) (hK : X.K = K := by rfl) (hw : X.w = w := by rfl) : IxR X (rIxKd K d) := by
  subst hK hw; exact ix_kd D
theorem rd5 :
    (∀ C m sp E ta t σ H Q, tMthS C m sp E ta t σ H Q ↔ ta σ H fun x H1 => ∃ a dx fs, x = .ref a ∧ H1 a = some (.ins C dx fs) ∧ fs.lookup m = none ∧ t σ H1 fun vs H2 => sp (x :: vs) H2 Q (E σ)) ∧
    (∀ r to te σ H Q, tM1 r to te σ H Q ↔ to σ H fun x H1 => (∃ a, x = .str a) ∧ te σ H1 fun y H2 => r x [y] H2 Q) ∧
    (∀ K T r to σ H Q, tBM0 K T r to σ H Q ↔ to σ H fun x H1 => tyV K T x H1 ∧ r x [] H1 Q) ∧
    (∀ W σ, WE W σ = fun cls d H => W cls d σ H) := by
  refine ⟨fun _ _ _ _ _ _ _ _ _ => Iff.rfl, fun _ _ _ _ _ _ => Iff.rfl, fun _ _ _ _ _ _ _ => Iff.rfl, fun _ _ => rfl⟩
def DeskAt (K : PySem.W.Frag) (H : Hp) (k b : Addr) : Prop := ∃ dx, H k = some (.ins (He.ga K "Desk") dx [("shelf", .ref b)])
theorem nm_len {z : Str} (h : Nm z = true) : z.length ≤ 8 := by
  unfold Nm at h
  rw [Bool.and_eq_true, Bool.and_eq_true, decide_eq_true_iff, decide_eq_true_iff] at h
  exact h.1.2
theorem nm_sum : ∀ {l : List Str}, (∀ z ∈ l, Nm z = true) → (l.map fun x => x.length).sum ≤ 8 * l.length
  | [], _ => Nat.le_refl _
  | z :: r, h => by
    have h1 := nm_len (h z List.mem_cons_self)
    have h2 := nm_sum fun y hy => h y (List.mem_cons_of_mem z hy)
    rw [List.map_cons, List.sum_cons, List.length_cons]
    omega
theorem TrailAt.beside {K : PySem.W.Frag} {H : Hp} {u : V} {d k : Int} {D : Addr} {o : HO} (h : TrailAt K H u d (some k)) (hD : H D = some (.lst [])) : TrailAt K (upd H D o) u d (some k) := by
  obtain ⟨a, dx, n, w, r, ts, e0, e1, e2, e3, t, p, b, e, e4, e5, e6, e7⟩ := h
  subst e4
  have sx : SX D H (upd H D o) := SX.upd
  have n1 : a ≠ D := ne_of e1 hD (by intro z; cases z)
  have n2 : r ≠ D := ne_of e3 hD (by intro z; cases z)
  exact ⟨a, dx, n, w, r, _, e0, sx _ _ e1 n1, e2.sx sx (nt_lst hD), sx _ _ e3 n2, t, p, b, e, rfl, sx.tup (nt_lst hD) e5, e6.sx sx (nt_lst hD), sx.tup (nt_lst hD) e7⟩
/-! names_row -/
def sp_names_row (K : PySem.W.Frag) : Sp := fun vs H Q E => ∃ b pl fl d s ps fs, vs = [.ref b] ∧ BookAt K H b pl fl d s ps fs ∧ s.1 ≠ [] ∧ ∀ H', Same H H' → Q (.str (Txt.join " " s.1)) H'
abbrev sc_names_rowN : List Str := ["book"]
theorem sc_names_row : FnScope sc_names_rowN ["book"] (defScope (topS 123)) := ⟨rfl, rfl, rfl, by decide +kernel, rfl, by decide +kernel, by decide +kernel⟩
theorem r_names_row {P : Program} {w : World} {K : PySem.W.Frag} {mg : Str → Option Value} {base : Heap} (T : Tx w K mg) : FnR P w K mg base (L2.CX P w) 3 (He.ga K "names_row") (sp_names_row K) := by
  refine mkR T.f_names_row sc_names_row (fun _ _ _ _ _ _ us hl => match us, hl with | [_], _ => rfl) (fun vs H Q E h => by obtain ⟨b, pl, fl, d, s, ps, fs, rfl, hB, hn, hq⟩ := h; rfl) (fun cdv A outer s H vs Q E hr h => ?_)
  obtain ⟨b, pl, fl, d, s, ps, fs, rfl, hB, hn, hq⟩ := h
  obtain ⟨dx, p, kt, kn, ts, qv, gv, h1, h2, h3, h4, h5, h6, h7, h8, h9, h10⟩ := id hB
  refine ⟨_, (pss_one (ps_ret (pe_ifExp (pt_cmpR op_eq (pe_callB (call_ownLen (r_Book__len_ (P := P) (w := w) (K := K) (base := base) T) T.l_Book hr) (by rfl) T.n_len boot_len (pa_cons (pv 0) pa_nil)) (pe_int) (nomark _)) (pe_str) (pe_join (pe_str) (pe_m0 (pe_pr (r_Book_parts (P := P) (w := w) (K := K) (base := base) T) T.c_Book T.p_Book_parts hr (pv 0)) (r_Parts_names (P := P) (w := w) (K := K) (base := base) T) T.c_Parts T.t_Parts_names hr passL))))), ?_⟩
  refine start_of (σ := [some (.ref b)]) rfl ?_
  simp only [rd, rd2, rd3, rd4, rd5, List.getElem?_cons_zero, List.getElem?_cons_succ, Option.some.injEq, exists_eq_left', exists_eq_left, exists_and_left, exists_and_right, List.cons.injEq, V.str.injEq, V.int.injEq, V.bl.injEq, V.ref.injEq, V.ty.injEq, and_true, true_and, List.set_cons_zero, List.set_cons_succ, exists_const, exists_false, reduceCtorEq, ↓reduceIte, exists_eq, exists_eq', and_self, cxK, wipe, List.map_cons, List.map_nil, List.length_cons, List.length_nil, Nat.zero_add, Nat.reduceAdd, Int.cast_ofNat_Int, Int.reduceEq, Int.reduceLE, Int.reduceLT, decide_eq_true_eq, decide_true, decide_false, Bool.true_eq_false, Bool.false_eq_true, Bool.not_true, Bool.not_false]
  obtain ⟨a, dx2, kd, kn2, val, rfl, e1, e2, e3, e4⟩ := id h2
  have hl12 := e4.1.2.2.1
  refine ⟨b, dx, _, rfl, h1, b, pl, fl, d, s, ps, fs, rfl, hB, s.1.length, rfl, by rw [sizeLine_eq]; omega, rfl, ?_⟩
  have hpos : 0 < s.1.length := List.length_pos_iff.mpr hn
  rw [if_neg (by rw [V.int.injEq]; omega)]
  have := nm_sum e4.1.2.2.2
  exact ⟨⟨_, _, h1⟩, b, dx, _, _, rfl, h1, rfl, a, rfl, _, _, e1, rfl, _, d, s.1, s.2, rfl, h2, fun p hp => ⟨p, rfl, s.1, .inl (.of upd_same), by show _ + _ * 1 ≤ _; omega, hq _ (same_upd hp)⟩⟩
/-! about_names -/
def sp_about_names (K : PySem.W.Frag) : Sp := fun vs H Q E => ∃ b pl fl d s ps fs l z k, vs = [.ref b, .str "total", .ref l] ∧ SqL K H l [.str z] ∧ BookAt K H b pl fl d s ps fs ∧ z ∈ s.1 ∧ s.2 z = some k ∧ (k = 1 ∨ k = 2) ∧ ∀ H', Same H H' → Q (.str (toString k)) H'
abbrev sc_about_namesN : List Str := ["book", "word", "names", "trails", "found", "name"]
theorem sc_about_names : FnScope sc_about_namesN ["book", "word", "names"] (defScope (topS 121)) := ⟨rfl, rfl, rfl, by decide +kernel, rfl, by decide +kernel, by decide +kernel⟩
theorem r_about_names {P : Program} {w : World} {K : PySem.W.Frag} {mg : Str → Option Value} {base : Heap} (T : Tx w K mg) : FnR P w K mg base (L2.CX P w) 11 (He.ga K "about_names") (sp_about_names K) := by
  refine mkR T.f_about_names sc_about_names (fun _ _ _ _ _ _ us hl => match us, hl with | [_, _, _], _ => rfl) (fun vs H Q E h => by obtain ⟨b, pl, fl, d, s, ps, fs, l, z, k, rfl, hl, hB, hz, hk, hk2, hq⟩ := h; rfl) (fun cdv A outer s H vs Q E hr h => ?_)
  obtain ⟨b, pl, fl, d, s, ps, fs, l, z, k, rfl, hl, hB, hz, hk, hk2, hq⟩ := h
  obtain ⟨dx, p, kt, kn, ts, qv, gv, h1, h2, h3, h4, h5, h6, h7, h8, h9, h10⟩ := id hB
  refine ⟨_, (pss_cons (ps_if (pt_cmpR op_eq (pv 1) (pe_str) (nomark _)) (pss_one ps_never) pss_nil) (pss_cons (ps_setLc (i := 3) (own := [("name", 5)]) (g := gName 5) (tt := tYes) rfl sc_about_names.nd rfl rfl (sw_true rfl rfl rfl (by decide +kernel)) (pi_list (pv 2)) (blkOk_by (N := sc_about_namesN) (sc := (defScope (topS 121))) (by decide +kernel)) (fun _ _ _ _ _ => (pg_name (i := 5) sc_about_names.nd rfl (Or.inl rfl))) (fun _ _ _ _ _ => pts_nil) (fun _ _ _ _ _ => (pe_m (pv 0) (r_Book_trail (P := P) (w := w) (K := K) (base := base) T) T.c_Book T.t_Book_trail hr passL (pa_cons (pv 5) pa_nil)))) (pss_cons (ps_if (pt_cmpR op_eq (pv 1) (pe_str) (nomark _)) (pss_one ps_never) pss_nil) (pss_cons (ps_if (pt_cmpR op_eq (pv 1) (pe_str) (nomark _)) (pss_one (ps_ret (pe_callTy call_str_int (by rfl) T.n_str (by decide +kernel) (pa_cons (pe_pr (r_Effect_total (P := P) (w := w) (K := K) (base := base) T) T.c_Effect T.p_Effect_total hr (pe_m0 (pe_ix (r := rIxL K) ix_list (pv 3) (pe_int) (fun _ _ => rfl)) (r_Trail_effect (P := P) (w := w) (K := K) (base := base) T) T.c_Trail T.t_Trail_effect hr passL)) pa_nil)))) pss_nil) (pss_cons (ps_if (pt_cmpR op_eq (pv 1) (pe_str) (nomark _)) (pss_one ps_never) pss_nil) (pss_cons (ps_if (pt_cmpR op_eq (pv 1) (pe_str) (nomark _)) (pss_one ps_never) pss_nil) (pss_cons ps_never (pss_one ps_never)))))))), ?_⟩
  refine start_of (σ := [some (.ref b), some (.str "total"), some (.ref l), none, none, none]) rfl ?_
  simp only [rd, rd2, rd3, rd4, rd5, List.getElem?_cons_zero, List.getElem?_cons_succ, Option.some.injEq, exists_eq_left', exists_eq_left, exists_and_left, exists_and_right, List.cons.injEq, V.str.injEq, V.int.injEq, V.bl.injEq, V.ref.injEq, V.ty.injEq, and_true, true_and, List.set_cons_zero, List.set_cons_succ, exists_const, exists_false, reduceCtorEq, ↓reduceIte, exists_eq, exists_eq', and_self, cxK, wipe, List.map_cons, List.map_nil, List.length_cons, List.length_nil, Nat.zero_add, Nat.reduceAdd, Int.cast_ofNat_Int, Int.reduceEq, Int.reduceLE, Int.reduceLT, decide_eq_true_eq, decide_true, decide_false, Bool.true_eq_false, Bool.false_eq_true, Bool.not_true, Bool.not_false]
  refine ⟨rfl, ?_⟩
  rw [if_neg (by decide)]
  refine ⟨⟨_, hl⟩, ?_⟩
  refine lc1 (walk_list (xs := [.str z])) (fun H' s => s.seq hl) fun D hD => ?_
  have s0 := same_upd (o := .lst []) hD
  simp only [rd, rd2, rd3, rd4, rd5, List.getElem?_cons_zero, List.getElem?_cons_succ, Option.some.injEq, exists_eq_left', exists_eq_left, exists_and_left, exists_and_right, List.cons.injEq, V.str.injEq, V.int.injEq, V.bl.injEq, V.ref.injEq, V.ty.injEq, and_true, true_and, List.set_cons_zero, List.set_cons_succ, exists_const, exists_false, reduceCtorEq, ↓reduceIte, exists_eq, exists_eq', and_self, cxK, wipe, List.map_cons, List.map_nil, List.length_cons, List.length_nil, Nat.zero_add, Nat.reduceAdd, Int.cast_ofNat_Int, Int.reduceEq, Int.reduceLE, Int.reduceLT, decide_eq_true_eq, decide_true, decide_false, Bool.true_eq_false, Bool.false_eq_true, Bool.not_true, Bool.not_false]
  refine ⟨_, _, s0 _ _ h1, rfl, b, pl, fl, d, s, ps, fs, z, k, rfl, hB.same s0, hz, hk, fun H1 u s1 hu => ?_⟩
  have hD1 := s1 _ _ upd_same
  have sG : Same H (upd H1 D (.lst ([] ++ [u]))) := fun b o e => by
    rw [upd_ne (ne_of_none e hD)]; exact s1 _ _ (s0 _ _ e)
  refine ⟨[], hD1, by rw [sizeLine_eq]; decide, sG, rfl, ?_⟩
  rw [if_neg (by decide)]
  refine ⟨rfl, ?_⟩
  refine ⟨_, .of upd_same, u, rfl, ?_⟩
  have hu2 := hu.beside (o := .lst ([] ++ [u])) hD1
  obtain ⟨a, dxa, n, w0, r, ts, rfl, f1, f2⟩ := id hu2
  refine ⟨a, rfl, _, _, f1, rfl, _, d, k, rfl, hu2, by omega, fun H2 v s2 hv => ?_⟩
  obtain ⟨a2, dx2, g2, w2, r2, t2, o2, e2, rfl, f3, f4⟩ := id hv
  refine ⟨a2, rfl, ⟨_, _, f3⟩, _, k, rfl, hv, by omega, fun H3 s3 => ⟨k, rfl, ?_, hq _ (sG.trans (s2.trans s3))⟩⟩
  rcases hk2 with rfl | rfl <;> decide
/-- the lines 'define z put n' -/
def LD (z rest line : Str) (c : Nat) : Prop := (z = "q" ∧ rest = "q put 1" ∧ line = "define q put 1" ∧ c = 49) ∨ (z = "zz" ∧ rest = "zz put 2" ∧ line = "define zz put 2" ∧ c = 50)
/-! Desk.written -/
def sp_Desk_written (K : PySem.W.Frag) : Sp := fun vs H Q E => ∃ k b pl fl d s ps fs z rest line c, vs = [.ref k, .str "define", .str rest] ∧ LD z rest line c ∧ DeskAt K H k b ∧ BookAt K H b pl fl d s ps fs ∧ ps.length < 1000 ∧ (Cm.dfn z (some (if c = 49 then 1 else 2))).ok s.1 ∧ (s.1.length = 12 → Full K H E) ∧
  (s.1.length ≠ 12 → ∀ H' fl', S3 b pl fl H H' → H fl' = none → BookAt K H' b pl fl' d ((Cm.dfn z (some (if c = 49 then 1 else 2))).nk s.1, (Cm.dfn z (some (if c = 49 then 1 else 2))).nb s.2) (ps ++ [s]) [] → Q (.str "ok") H')
abbrev sc_Desk_writtenN : List Str := ["self", "word", "rest", "name", "space", "text"]
theorem sc_Desk_written : FnScope sc_Desk_writtenN ["self", "word", "rest"] (defScope (clsS 124 3)) := ⟨rfl, rfl, rfl, by decide +kernel, rfl, by decide +kernel, by decide +kernel⟩
theorem r_Desk_written {P : Program} {w : World} {K : PySem.W.Frag} {mg : Str → Option Value} {base : Heap} (T : Tx w K mg) : FnR P w K mg base (L2.CX P w) 11 (He.ma K (He.ga K "Desk") "written") (sp_Desk_written K) := by
  refine mkR T.f_Desk_written sc_Desk_written (fun _ _ _ _ _ _ us hl => match us, hl with | [_, _, _], _ => rfl) (fun vs H Q E h => by obtain ⟨k, b, pl, fl, d, s, ps, fs, z, rest, line, c, rfl, hL, ⟨dxk, hk⟩, hB, hl, ho, hf, hq⟩ := h; rfl) (fun cdv A outer s H vs Q E hr h => ?_)
  obtain ⟨k, b, pl, fl, d, s, ps, fs, z, rest, line, c, rfl, hL, ⟨dxk, hk⟩, hB, hl, ho, hf, hq⟩ := h
  obtain ⟨dx, p, kt, kn, ts, qv, gv, h1, h2, h3, h4, h5, h6, h7, h8, h9, h10⟩ := id hB
  refine ⟨_, (pss_cons (ps_asg (pe_partition (pv 2) (pe_str)) (kpg (K := K) (n := 3) (pg_tup rfl (pgs_cons (pg_name (i := 3) sc_Desk_written.nd rfl (Or.inl rfl)) (pgs_cons (pg_name (i := 4) sc_Desk_written.nd rfl (Or.inl rfl)) (pgs_cons (pg_name (i := 5) sc_Desk_written.nd rfl (Or.inl rfl)) pgs_nil)))))) (pss_cons (ps_if (PW.pt (pw_or (pt_cmpR op_eq (pv 3) (pe_str) (nomark _)) (pw_or1 (pt_cmpR op_eq (pv 4) (pe_str) (nomark _))))) (pss_one (ps_ret (pe_str))) pss_nil) (pss_cons (ps_expr (pe_m (pe_fd T.c_Desk T.a_Desk_shelf (pv 0)) (r_Book_apply (P := P) (w := w) (K := K) (base := base) T) T.c_Book T.t_Book_apply hr (passes_call (takes_of rfl rfl rfl rfl) (fun _ _ _ _ h => h)) (pa_cons (pe_tup (pa_cons (pv 1) (pa_cons (pv 3) (pa_cons (pe_f (r_parse_block (P := P) (w := w) (K := K) (base := base) T) T.g_parse_block T.f_parse_block.keep hr passL (pa_cons (pv 5) (pa_cons (pe_pr (r_Parts_dimension (P := P) (w := w) (K := K) (base := base) T) T.c_Parts T.p_Parts_dimension hr (pe_pr (r_Book_parts (P := P) (w := w) (K := K) (base := base) T) T.c_Book T.p_Book_parts hr (pe_fd T.c_Desk T.a_Desk_shelf (pv 0)))) pa_nil))) pa_nil)))) pa_nil))) (pss_one (ps_ret (pe_str)))))), ?_⟩
  refine start_of (σ := [some (.ref k), some (.str "define"), some (.str rest), none, none, none]) rfl ?_
  simp only [rd, rd2, rd3, rd4, rd5, List.getElem?_cons_zero, List.getElem?_cons_succ, Option.some.injEq, exists_eq_left', exists_eq_left, exists_and_left, exists_and_right, List.cons.injEq, V.str.injEq, V.int.injEq, V.bl.injEq, V.ref.injEq, V.ty.injEq, and_true, true_and, List.set_cons_zero, List.set_cons_succ, exists_const, exists_false, reduceCtorEq, ↓reduceIte, exists_eq, exists_eq', and_self, cxK, wipe, List.map_cons, List.map_nil, List.length_cons, List.length_nil, Nat.zero_add, Nat.reduceAdd, Int.cast_ofNat_Int, Int.reduceEq, Int.reduceLE, Int.reduceLT, decide_eq_true_eq, decide_true, decide_false, Bool.true_eq_false, Bool.false_eq_true, Bool.not_true, Bool.not_false]
  have hd3 : 1 ≤ d ∧ d ≤ 3 := by obtain ⟨a, dx2, kd, kn2, val, rfl, e1, e2, e3, e4⟩ := id h2; exact e4.2
  rcases hL with ⟨rfl, rfl, rfl, rfl⟩ | ⟨rfl, rfl, rfl, rfl⟩
  · have hP : Txt.partition "q put 1" " " = (("q" : Str), (" " : Str), ("put 1" : Str)) := by decide +kernel
    simp only [hP]
    refine ⟨by decide, by rw [sizeLine_eq]; decide, fun t ht => ⟨_, .of upd_same, rfl, _, _, rfl, _, _, rfl, _, _, rfl, rfl, rfl, ?_⟩⟩
    rw [if_neg (by decide)]
    refine ⟨rfl, ?_⟩
    rw [if_neg (by decide)]
    have s0 := same_upd (o := .tup [.str "q", .str " ", .str "put 1"]) ht
    obtain ⟨pa, dx2, kd, kn2, val, rfl, e1, e2, e3, e4⟩ := id h2
    refine ⟨_, _, s0 _ _ hk, _, rfl, b, rfl, _, _, s0 _ _ h1, rfl, _, _, s0 _ _ hk, _, rfl, b, rfl, ⟨_, _, s0 _ _ h1⟩, b, dx, _, _, rfl, s0 _ _ h1, rfl, pa, rfl, ⟨_, _, s0 _ _ e1⟩, _, d, s.1, s.2, rfl, h2.same s0, 49, .int d, congrArg (fun z => [V.str z, V.int d]) (show ("put 1" : Str) = txC 49 by decide), .inl rfl, fun H1 v s1 hv => ⟨by decide, fun t2 ht2 => ?_⟩⟩
    have s2 := s0.trans (s1.trans (same_upd (o := .tup [.str "define", .str "q", v]) ht2))
    exact ⟨b, pl, fl, d, s, ps, fs, .ref t2, .dfn "q" (some (if (49 : Nat) = 49 then 1 else 2)), rfl, hB.same s2, hl, ⟨t2, v, rfl, .of upd_same, hv.same (same_upd ht2)⟩, ho, fun q => (hf q).same s2, fun nf H' fl' e1 e2 e3 => hq nf H' fl' ((SP.of s2).trans e1) (s2.free e2) e3⟩
  · have hP : Txt.partition "zz put 2" " " = (("zz" : Str), (" " : Str), ("put 2" : Str)) := by decide +kernel
    simp only [hP]
    refine ⟨by decide, by rw [sizeLine_eq]; decide, fun t ht => ⟨_, .of upd_same, rfl, _, _, rfl, _, _, rfl, _, _, rfl, rfl, rfl, ?_⟩⟩
    rw [if_neg (by decide)]
    refine ⟨rfl, ?_⟩
    rw [if_neg (by decide)]
    have s0 := same_upd (o := .tup [.str "zz", .str " ", .str "put 2"]) ht
    obtain ⟨pa, dx2, kd, kn2, val, rfl, e1, e2, e3, e4⟩ := id h2
    refine ⟨_, _, s0 _ _ hk, _, rfl, b, rfl, _, _, s0 _ _ h1, rfl, _, _, s0 _ _ hk, _, rfl, b, rfl, ⟨_, _, s0 _ _ h1⟩, b, dx, _, _, rfl, s0 _ _ h1, rfl, pa, rfl, ⟨_, _, s0 _ _ e1⟩, _, d, s.1, s.2, rfl, h2.same s0, 50, .int d, congrArg (fun z => [V.str z, V.int d]) (show ("put 2" : Str) = txC 50 by decide), .inr rfl, fun H1 v s1 hv => ⟨by decide, fun t2 ht2 => ?_⟩⟩
    have s2 := s0.trans (s1.trans (same_upd (o := .tup [.str "define", .str "zz", v]) ht2))
    exact ⟨b, pl, fl, d, s, ps, fs, .ref t2, .dfn "zz" (some (if (50 : Nat) = 49 then 1 else 2)), rfl, hB.same s2, hl, ⟨t2, v, rfl, .of upd_same, hv.same (same_upd ht2)⟩, ho, fun q => (hf q).same s2, fun nf H' fl' e1 e2 e3 => hq nf H' fl' ((SP.of s2).trans e1) (s2.free e2) e3⟩
/-! Desk.answered -/
def sp_Desk_answered (K : PySem.W.Frag) : Sp := fun vs H Q E => ∃ k b pl fl d s ps fs l word ws, vs = [.ref k, .str word, .ref l] ∧ SqL K H l (ws.map V.str) ∧ DeskAt K H k b ∧ BookAt K H b pl fl d s ps fs ∧ ps.length < 1000 ∧ fs.length < 1000 ∧
  ((∃ z n, word = "rename" ∧ ws = [z, n] ∧ (Cm.ren z n).ok s.1 ∧ ∀ H' fl', S3 b pl fl H H' → H fl' = none → BookAt K H' b pl fl' d ((Cm.ren z n).nk s.1, (Cm.ren z n).nb s.2) (ps ++ [s]) [] → Q (.str "ok") H') ∨
   (∃ z, word = "drop" ∧ ws = [z] ∧ (Cm.drp z).ok s.1 ∧ ∀ H' fl', S3 b pl fl H H' → H fl' = none → BookAt K H' b pl fl' d ((Cm.drp z).nk s.1, (Cm.drp z).nb s.2) (ps ++ [s]) [] → Q (.str "ok") H') ∨
   (∃ z n, word = "total" ∧ ws = [z] ∧ z ∈ s.1 ∧ s.2 z = some n ∧ (n = 1 ∨ n = 2) ∧ ∀ H', Same H H' → Q (.str (toString n)) H') ∨
   (∃ ps0 s0, word = "undo" ∧ ps = ps0 ++ [s0] ∧ ∀ H', S3 b pl fl H H' → BookAt K H' b pl fl d s0 ps0 (fs ++ [s]) → Q (.str "ok") H') ∨
   (word = "names" ∧ s.1 ≠ [] ∧ ∀ H', Same H H' → Q (.str (Txt.join " " s.1)) H'))
abbrev sc_Desk_answeredN : List Str := ["self", "word", "words", "one"]
theorem sc_Desk_answered : FnScope sc_Desk_answeredN ["self", "word", "words"] (defScope (clsS 124 4)) := ⟨rfl, rfl, rfl, by decide +kernel, rfl, by decide +kernel, by decide +kernel⟩
theorem r_Desk_answered {P : Program} {w : World} {K : PySem.W.Frag} {mg : Str → Option Value} {base : Heap} (T : Tx w K mg) : FnR P w K mg base (L2.CX P w) 12 (He.ma K (He.ga K "Desk") "answered") (sp_Desk_answered K) := by
  refine mkR T.f_Desk_answered sc_Desk_answered (fun _ _ _ _ _ _ us hl => match us, hl with | [_, _, _], _ => rfl) (fun vs H Q E h => by obtain ⟨k, b, pl, fl, d, s, ps, fs, l, word, ws, rfl, hl, ⟨dxk, hk⟩, hB, hp1, hf1, hq⟩ := h; rfl) (fun cdv A outer s H vs Q E hr h => ?_)
  obtain ⟨k, b, pl, fl, d, s, ps, fs, l, word, ws, rfl, hl, ⟨dxk, hk⟩, hB, hp1, hf1, hq⟩ := h
  obtain ⟨dx, p, kt, kn, ts, qv, gv, h1, h2, h3, h4, h5, h6, h7, h8, h9, h10⟩ := id hB
  refine ⟨_, (pss_cons (ps_if (pt_cmpR op_eq (pv 1) (pe_str) (nomark _)) (pss_one (ps_ret (pe_f (r_names_row (P := P) (w := w) (K := K) (base := base) T) T.g_names_row T.f_names_row.keep hr passL (pa_cons (pe_fd T.c_Desk T.a_Desk_shelf (pv 0)) pa_nil)))) pss_nil) (pss_cons (ps_if (pt_cmpR (r := rIn K false) op_in_seq (pv 1) (pe_tup (pa_cons (pe_str) (pa_cons (pe_str) pa_nil))) (by rfl)) (pss_cons ps_never (pss_one ps_never)) pss_nil) (pss_cons (ps_if (pt_cmpR op_eq (pv 1) (pe_str) (nomark _)) (pss_one (ps_expr (pe_m0 (pe_fd T.c_Desk T.a_Desk_shelf (pv 0)) (r_Book_undo (P := P) (w := w) (K := K) (base := base) T) T.c_Book T.t_Book_undo hr passL))) (pss_one (ps_if (pt_cmpR op_eq (pv 1) (pe_str) (nomark _)) (pss_one ps_never) (pss_one (ps_if (pt_cmpR (r := rIn K false) op_in_seq (pv 1) (pe_tup (pa_cons (pe_str) (pa_cons (pe_str) pa_nil))) (by rfl)) (pss_one (ps_expr (pe_m (pe_fd T.c_Desk T.a_Desk_shelf (pv 0)) (r_Book_apply (P := P) (w := w) (K := K) (base := base) T) T.c_Book T.t_Book_apply hr (passes_call (takes_of rfl rfl rfl rfl) (fun _ _ _ _ h => h)) (pa_cons (pe_op (r := rCatA K) op_catA (pe_tup (pa_cons (pv 1) pa_nil)) (pe_callTy (r := rTupOf K) call_tupS (by rfl) T.n_tuple (by decide +kernel) (pa_cons (pv 2) pa_nil))) pa_nil)))) (pss_one (ps_ret (pe_f (r_about_names (P := P) (w := w) (K := K) (base := base) T) T.g_about_names T.f_about_names.keep hr passL (pa_cons (pe_fd T.c_Desk T.a_Desk_shelf (pv 0)) (pa_cons (pv 1) (pa_cons (pv 2) pa_nil))))))))))) (pss_one (ps_ret (pe_str)))))), ?_⟩
  refine start_of (σ := [some (.ref k), some (.str word), some (.ref l), none]) rfl ?_
  simp only [rd, rd2, rd3, rd4, rd5, List.getElem?_cons_zero, List.getElem?_cons_succ, Option.some.injEq, exists_eq_left', exists_eq_left, exists_and_left, exists_and_right, List.cons.injEq, V.str.injEq, V.int.injEq, V.bl.injEq, V.ref.injEq, V.ty.injEq, and_true, true_and, List.set_cons_zero, List.set_cons_succ, exists_const, exists_false, reduceCtorEq, ↓reduceIte, exists_eq, exists_eq', and_self, cxK, wipe, List.map_cons, List.map_nil, List.length_cons, List.length_nil, Nat.zero_add, Nat.reduceAdd, Int.cast_ofNat_Int, Int.reduceEq, Int.reduceLE, Int.reduceLT, decide_eq_true_eq, decide_true, decide_false, Bool.true_eq_false, Bool.false_eq_true, Bool.not_true, Bool.not_false]
  rcases hq with ⟨z, n, rfl, rfl, ho, hq⟩ | ⟨z, rfl, rfl, ho, hq⟩ | ⟨z, n, rfl, rfl, hz, hn, hn2, hq⟩ | ⟨ps0, s0', rfl, rfl, hq⟩ | ⟨rfl, hn, hq⟩
  ·
    refine ⟨rfl, ?_⟩
    rw [if_neg (by decide)]
    refine ⟨by decide, fun p1 i1 => ⟨_, .inr (.of upd_same), rfl, rfl, ?_⟩⟩
    rw [if_neg (by decide)]
    refine ⟨rfl, ?_⟩
    rw [if_neg (by decide)]
    refine ⟨rfl, ?_⟩
    rw [if_neg (by decide)]
    refine ⟨by decide, fun p2 i2 => ⟨_, .inr (.of upd_same), rfl, rfl, ?_⟩⟩
    have s0 := (same_upd (o := .tup [.str "amount", .str "visits"]) i1).trans (same_upd (o := .tup [.str "rename", .str "drop"]) i2)
    rw [if_pos (by decide)]
    refine ⟨_, _, s0 _ _ hk, _, rfl, b, rfl, _, _, s0 _ _ h1, rfl, ?_⟩
    refine ⟨by decide, fun p3 i3 => ⟨_, (s0.trans (same_upd i3)).seq hl, fun p4 i4 => ?_⟩⟩
    have s4 := (s0.trans (same_upd (o := .tup [.str "rename"]) i3)).trans (same_upd (o := .tup ([z, n].map V.str)) i4)
    refine ⟨p3, p4, _, _, rfl, rfl, same_tup (same_upd i4) (.of upd_same), .of upd_same, by rw [sizeLine_eq]; simp, (fun q => nomatch q), (fun _ q => nomatch q), fun _ _ p5 i5 => ?_⟩
    have s5 := s4.trans (same_upd (o := .tup ([.str "rename"] ++ [z, n].map V.str)) i5)
    exact ⟨b, pl, fl, d, s, ps, fs, .ref p5, .ren z n, rfl, hB.same s5, hp1, ⟨p5, rfl, .of upd_same⟩, ho, (fun q => q.elim), fun _ H' fl' e1 e2 e3 => hq H' fl' ((SP.of s5).trans e1) (s5.free e2) e3⟩
  ·
    refine ⟨rfl, ?_⟩
    rw [if_neg (by decide)]
    refine ⟨by decide, fun p1 i1 => ⟨_, .inr (.of upd_same), rfl, rfl, ?_⟩⟩
    rw [if_neg (by decide)]
    refine ⟨rfl, ?_⟩
    rw [if_neg (by decide)]
    refine ⟨rfl, ?_⟩
    rw [if_neg (by decide)]
    refine ⟨by decide, fun p2 i2 => ⟨_, .inr (.of upd_same), rfl, rfl, ?_⟩⟩
    have s0 := (same_upd (o := .tup [.str "amount", .str "visits"]) i1).trans (same_upd (o := .tup [.str "rename", .str "drop"]) i2)
    rw [if_pos (by decide)]
    refine ⟨_, _, s0 _ _ hk, _, rfl, b, rfl, _, _, s0 _ _ h1, rfl, ?_⟩
    refine ⟨by decide, fun p3 i3 => ⟨_, (s0.trans (same_upd i3)).seq hl, fun p4 i4 => ?_⟩⟩
    have s4 := (s0.trans (same_upd (o := .tup [.str "drop"]) i3)).trans (same_upd (o := .tup ([z].map V.str)) i4)
    refine ⟨p3, p4, _, _, rfl, rfl, same_tup (same_upd i4) (.of upd_same), .of upd_same, by rw [sizeLine_eq]; simp, (fun q => nomatch q), (fun _ q => nomatch q), fun _ _ p5 i5 => ?_⟩
    have s5 := s4.trans (same_upd (o := .tup ([.str "drop"] ++ [z].map V.str)) i5)
    exact ⟨b, pl, fl, d, s, ps, fs, .ref p5, .drp z, rfl, hB.same s5, hp1, ⟨p5, rfl, .of upd_same⟩, ho, (fun q => q.elim), fun _ H' fl' e1 e2 e3 => hq H' fl' ((SP.of s5).trans e1) (s5.free e2) e3⟩
  ·
    refine ⟨rfl, ?_⟩
    rw [if_neg (by decide)]
    refine ⟨by decide, fun p1 i1 => ⟨_, .inr (.of upd_same), rfl, rfl, ?_⟩⟩
    rw [if_neg (by decide)]
    refine ⟨rfl, ?_⟩
    rw [if_neg (by decide)]
    refine ⟨rfl, ?_⟩
    rw [if_neg (by decide)]
    refine ⟨by decide, fun p2 i2 => ⟨_, .inr (.of upd_same), rfl, rfl, ?_⟩⟩
    have s0 := (same_upd (o := .tup [.str "amount", .str "visits"]) i1).trans (same_upd (o := .tup [.str "rename", .str "drop"]) i2)
    rw [if_neg (by decide)]
    exact ⟨_, _, s0 _ _ hk, _, rfl, b, pl, fl, d, s, ps, fs, l, z, n, rfl, s0.seq hl, hB.same s0, hz, hn, hn2, fun H' s1 => hq _ (s0.trans s1)⟩
  ·
    refine ⟨rfl, ?_⟩
    rw [if_neg (by decide)]
    refine ⟨by decide, fun p1 i1 => ⟨_, .inr (.of upd_same), rfl, rfl, ?_⟩⟩
    rw [if_neg (by decide)]
    refine ⟨rfl, ?_⟩
    rw [if_pos rfl]
    have s0 := same_upd (o := .tup [.str "amount", .str "visits"]) i1
    exact ⟨_, _, s0 _ _ hk, _, rfl, b, rfl, _, _, s0 _ _ h1, rfl, b, pl, fl, d, s, ps0, fs, s0', rfl, hB.same s0, hf1, fun H' e1 e2 => hq _ ((SP.of s0).trans e1) e2⟩
  · refine ⟨rfl, ?_⟩
    rw [if_pos rfl]
    exact ⟨_, _, hk, _, rfl, b, pl, fl, d, s, ps, fs, rfl, hB, hn, hq⟩
/-! Desk.ask -/
def sp_Desk_ask (K : PySem.W.Frag) : Sp := fun vs H Q E => ∃ k b pl fl d s ps fs line, vs = [.ref k, .str line] ∧ DeskAt K H k b ∧ BookAt K H b pl fl d s ps fs ∧ ps.length < 1000 ∧ fs.length < 1000 ∧
  ((∃ z rest c, LD z rest line c ∧ (Cm.dfn z (some (if c = 49 then 1 else 2))).ok s.1 ∧ (s.1.length = 12 → ∀ H', Same H H' → Q (.str "error CapacityExceeded") H') ∧
     (s.1.length ≠ 12 → ∀ H' fl', S3 b pl fl H H' → H fl' = none → BookAt K H' b pl fl' d ((Cm.dfn z (some (if c = 49 then 1 else 2))).nk s.1, (Cm.dfn z (some (if c = 49 then 1 else 2))).nb s.2) (ps ++ [s]) [] → Q (.str "ok") H')) ∨
   (line = "rename zz q" ∧ (Cm.ren "zz" "q").ok s.1 ∧ ∀ H' fl', S3 b pl fl H H' → H fl' = none → BookAt K H' b pl fl' d ((Cm.ren "zz" "q").nk s.1, (Cm.ren "zz" "q").nb s.2) (ps ++ [s]) [] → Q (.str "ok") H') ∨
   (line = "drop q" ∧ (Cm.drp "q").ok s.1 ∧ ∀ H' fl', S3 b pl fl H H' → H fl' = none → BookAt K H' b pl fl' d ((Cm.drp "q").nk s.1, (Cm.drp "q").nb s.2) (ps ++ [s]) [] → Q (.str "ok") H') ∨
   (∃ n, line = "total zz" ∧ ("zz" : Str) ∈ s.1 ∧ s.2 "zz" = some n ∧ (n = 1 ∨ n = 2) ∧ ∀ H', Same H H' → Q (.str (toString n)) H') ∨
   (∃ ps0 s0, line = "undo" ∧ ps = ps0 ++ [s0] ∧ ∀ H', S3 b pl fl H H' → BookAt K H' b pl fl d s0 ps0 (fs ++ [s]) → Q (.str "ok") H') ∨
   (line = "names" ∧ s.1 ≠ [] ∧ ∀ H', Same H H' → Q (.str (Txt.join " " s.1)) H'))
abbrev sc_Desk_askN : List Str := ["self", "line", "word", "space", "rest", "words", "ground", "e"]
theorem sc_Desk_ask : FnScope sc_Desk_askN ["self", "line"] (defScope (clsS 124 2)) := ⟨rfl, rfl, rfl, by decide +kernel, rfl, by decide +kernel, by decide +kernel⟩
theorem r_Desk_ask {P : Program} {w : World} {K : PySem.W.Frag} {mg : Str → Option Value} {base : Heap} (T : Tx w K mg) : FnR P w K mg base (L2.CX P w) 13 (He.ma K (He.ga K "Desk") "ask") (sp_Desk_ask K) := by
  refine mkR T.f_Desk_ask sc_Desk_ask (fun _ _ _ _ _ _ us hl => match us, hl with | [_, _], _ => rfl) (fun vs H Q E h => by obtain ⟨k, b, pl, fl, d, s, ps, fs, line, rfl, ⟨dxk, hk⟩, hB, hp1, hf1, hq⟩ := h; rfl) (fun cdv A outer s H vs Q E hr h => ?_)
  obtain ⟨k, b, pl, fl, d, s, ps, fs, line, rfl, ⟨dxk, hk⟩, hB, hp1, hf1, hq⟩ := h
  obtain ⟨es, n, KD⟩ := T.d_COUNTS; obtain ⟨dx, p, kt, kn, ts, qv, gv, h1, h2, h3, h4, h5, h6, h7, h8, h9, h10⟩ := id hB
  refine ⟨_, (pss_cons (ps_asg (pe_partition (pv 1) (pe_str)) (kpg (K := K) (n := 3) (pg_tup rfl (pgs_cons (pg_name (i := 2) sc_Desk_ask.nd rfl (Or.inl rfl)) (pgs_cons (pg_name (i := 3) sc_Desk_ask.nd rfl (Or.inl rfl)) (pgs_cons (pg_name (i := 4) sc_Desk_ask.nd rfl (Or.inl rfl)) pgs_nil)))))) (pss_one (ps_tryG (i := 7) (ts := fun a _ d => tRet (fun σ H Q => tJs [tC (.str "error "), tFmt (tXf a (.ref (He.ga K "CapacityExceeded")) d (He.ga K "CapacityExceeded") "tag" (tVar 7))] Str.empty σ H fun out H1 => Q (.str out) H1)) rfl rfl sc_Desk_ask.nd (fun W pn xe tk _ => (pss_cons (ps_if (pt_cmpR (r := rIn K false) op_in_seq (pv 2) (pe_tup (pa_cons (pe_str) (pa_cons (pe_str) pa_nil))) (by rfl)) (pss_one (ps_ret (pe_mS (pv 0) (r_Desk_written (P := P) (w := w) (K := K) (base := base) T) T.c_Desk T.t_Desk_written hr (fun σ => passAt tk σ) (pa_cons (pv 2) (pa_cons (pv 4) pa_nil))))) pss_nil) (pss_cons (ps_set (i := 5) sc_Desk_ask.nd rfl (Or.inl rfl) (pe_split (pv 1) (pe_str))) (pss_cons (ps_set (i := 6) sc_Desk_ask.nd rfl (Or.inl rfl) (pe_op op_mul (pe_pr (r_Parts_dimension (P := P) (w := w) (K := K) (base := base) T) T.c_Parts T.p_Parts_dimension hr (pe_pr (r_Book_parts (P := P) (w := w) (K := K) (base := base) T) T.c_Book T.p_Book_parts hr (pe_fd T.c_Desk T.a_Desk_shelf (pv 0)))) (pe_callTy call_intB (by rfl) T.n_int (by decide +kernel) (pa_cons (pe_cmpR (r := rIn K false) op_in_seq (pv 2) (pe_tup (pa_cons (pe_str) (pa_cons (pe_str) pa_nil))) (by rfl)) pa_nil)))) (pss_cons (ps_if (PW.pt (pw_or (pt_cmpR (op_notKd KD) (pv 2) (pe_glob (v := .ref (He.ga K "COUNTS")) rfl T.g_COUNTS rfl) (by rfl)) (pw_or (pt_cmpR op_ne (pe_callB (r := rLenS K) call_lenS (by rfl) T.n_len boot_len (pa_cons (pv 5) pa_nil)) (pe_op op_add (pe_ix (ix_kdK KD) (pe_glob (v := .ref (He.ga K "COUNTS")) rfl T.g_COUNTS rfl) (pv 2) (fun _ _ => rfl)) (pv 6)) (nomark _)) (pw_or1 (pt_cmpR (r := rIn K false) op_in_seq (pe_str) (pv 5) (by rfl)))))) (pss_one (ps_ret (pe_str))) pss_nil) (pss_one (ps_ret (pe_m (pv 0) (r_Desk_answered (P := P) (w := w) (K := K) (base := base) T) T.c_Desk T.t_Desk_answered hr passL (pa_cons (pv 2) (pa_cons (pe_slice (r := rSlL K) sl_list (pv 5) (po_some (pe_int)) po_none) pa_nil)))))))))) (HG.hit (xt_tup3 ⟨rfl, by decide, .inl T.g_StrewError⟩ ⟨rfl, by decide, .inl T.g_NotFound⟩ ⟨rfl, by decide, .inl T.g_NothingLeft⟩ T.e_strew) rfl rfl (fun a oe d pn hz hf => pss_one (ps_ret (pe_joined (PJ.cons pe_str (PJ.cons (pe_fmt (pe_xt T.x_xf T.x_tag hz hf (pv 7))) PJ.nil))))))))), ?_⟩
  refine start_of (σ := [some (.ref k), some (.str line), none, none, none, none, none, none]) rfl ?_
  simp only [rd, rd2, rd3, rd4, rd5, List.getElem?_cons_zero, List.getElem?_cons_succ, Option.some.injEq, exists_eq_left', exists_eq_left, exists_and_left, exists_and_right, List.cons.injEq, V.str.injEq, V.int.injEq, V.bl.injEq, V.ref.injEq, V.ty.injEq, and_true, true_and, List.set_cons_zero, List.set_cons_succ, exists_const, exists_false, reduceCtorEq, ↓reduceIte, exists_eq, exists_eq', and_self, cxK, wipe, List.map_cons, List.map_nil, List.length_cons, List.length_nil, Nat.zero_add, Nat.reduceAdd, Int.cast_ofNat_Int, Int.reduceEq, Int.reduceLE, Int.reduceLT, decide_eq_true_eq, decide_true, decide_false, Bool.true_eq_false, Bool.false_eq_true, Bool.not_true, Bool.not_false]
  rcases hq with ⟨z, rest, c, hL, ho, hq1, hq2⟩ | ⟨rfl, ho, hq⟩ | ⟨rfl, ho, hq⟩ | ⟨n2, rfl, hz, hn, hn2, hq⟩ | ⟨ps0, s0', rfl, rfl, hq⟩ | ⟨rfl, hn, hq⟩
  · rcases hL with ⟨rfl, rfl, rfl, rfl⟩ | ⟨rfl, rfl, rfl, rfl⟩
    ·
      have hP : Txt.partition "define q put 1" " " = (("define" : Str), (" " : Str), ("q put 1" : Str)) := by decide +kernel
      simp only [hP]
      refine ⟨by decide, by rw [sizeLine_eq]; decide, fun t ht => ⟨_, .of upd_same, rfl, _, _, rfl, _, _, rfl, _, _, rfl, rfl, by decide, fun t2 ht2 => ⟨_, .inr (.of upd_same), rfl, rfl, ?_⟩⟩⟩
      have s0 := (same_upd (o := .tup [.str "define", .str " ", .str "q put 1"]) ht).trans (same_upd (o := .tup [.str "define", .str "redefine"]) ht2)
      rw [if_pos (by decide)]
      refine ⟨_, _, s0 _ _ hk, rfl, k, b, pl, fl, d, s, ps, fs, "q", _, "define q put 1", 49, rfl, .inl ⟨rfl, rfl, rfl, rfl⟩, ⟨_, s0 _ _ hk⟩, hB.same s0, hp1, ho, fun q => ?_, fun nf H' fl' e1 e2 e3 => hq2 nf H' fl' ((SP.of s0).trans e1) (s0.free e2) e3⟩
      intro H' dd s1 hdd
      refine ⟨rfl, fun a ha => ?_⟩
      have hE : (Str.empty ++ ("error " : Str)) ++ ("CapacityExceeded" : Str) = "error CapacityExceeded" := by decide
      have fin := hq1 q _ (s0.trans s1)
      rw [← hE] at fin
      exact ⟨"error ", rfl, by rw [sizeLine_eq]; decide, _, rfl, rfl, rfl, dd, capF, .str "CapacityExceeded", rfl, hdd, rfl, .inl ⟨"CapacityExceeded", rfl, by rw [sizeLine_eq]; decide, _, rfl, by rw [sizeLine_eq]; decide, fin⟩⟩
    ·
      have hP : Txt.partition "define zz put 2" " " = (("define" : Str), (" " : Str), ("zz put 2" : Str)) := by decide +kernel
      simp only [hP]
      refine ⟨by decide, by rw [sizeLine_eq]; decide, fun t ht => ⟨_, .of upd_same, rfl, _, _, rfl, _, _, rfl, _, _, rfl, rfl, by decide, fun t2 ht2 => ⟨_, .inr (.of upd_same), rfl, rfl, ?_⟩⟩⟩
      have s0 := (same_upd (o := .tup [.str "define", .str " ", .str "zz put 2"]) ht).trans (same_upd (o := .tup [.str "define", .str "redefine"]) ht2)
      rw [if_pos (by decide)]
      refine ⟨_, _, s0 _ _ hk, rfl, k, b, pl, fl, d, s, ps, fs, "zz", _, "define zz put 2", 50, rfl, .inr ⟨rfl, rfl, rfl, rfl⟩, ⟨_, s0 _ _ hk⟩, hB.same s0, hp1, ho, fun q => ?_, fun nf H' fl' e1 e2 e3 => hq2 nf H' fl' ((SP.of s0).trans e1) (s0.free e2) e3⟩
      intro H' dd s1 hdd
      refine ⟨rfl, fun a ha => ?_⟩
      have hE : (Str.empty ++ ("error " : Str)) ++ ("CapacityExceeded" : Str) = "error CapacityExceeded" := by decide
      have fin := hq1 q _ (s0.trans s1)
      rw [← hE] at fin
      exact ⟨"error ", rfl, by rw [sizeLine_eq]; decide, _, rfl, rfl, rfl, dd, capF, .str "CapacityExceeded", rfl, hdd, rfl, .inl ⟨"CapacityExceeded", rfl, by rw [sizeLine_eq]; decide, _, rfl, by rw [sizeLine_eq]; decide, fin⟩⟩
  ·
    have hP : Txt.partition "rename zz q" " " = (("rename" : Str), (" " : Str), ("zz q" : Str)) := by decide +kernel
    simp only [hP]
    refine ⟨by decide, by rw [sizeLine_eq]; decide, fun t ht => ⟨_, .of upd_same, rfl, _, _, rfl, _, _, rfl, _, _, rfl, rfl, by decide, fun t2 ht2 => ⟨_, .inr (.of upd_same), rfl, rfl, ?_⟩⟩⟩
    have s0 := (same_upd (o := .tup [.str "rename", .str " ", .str "zz q"]) ht).trans (same_upd (o := .tup [.str "define", .str "redefine"]) ht2)
    have hS : Txt.split "rename zz q" " " = [("rename" : Str), ("zz" : Str), ("q" : Str)] := by decide +kernel
    simp only [hS]
    rw [if_neg (by decide)]
    refine ⟨by decide, by rw [sizeLine_eq]; decide, fun l hl => ?_⟩
    have s1 := s0.trans (same_upd (o := .lst ([("rename" : Str), ("zz" : Str), ("q" : Str)].map V.str)) hl)
    have hl1 : upd _ l (.lst ([("rename" : Str), ("zz" : Str), ("q" : Str)].map V.str)) l = _ := upd_same (H := upd (upd H t (.tup [.str "rename", .str " ", .str "zz q"])) t2 (.tup [.str "define", .str "redefine"]))
    obtain ⟨pa, dx2, kd, kn2, val, rfl, e1, e2, e3, e4⟩ := id h2
    obtain ⟨u0, k1, k2⟩ := T.v_COUNTS ("rename", 3) (by simp)
    refine ⟨_, _, s1 _ _ hk, _, rfl, b, rfl, ⟨_, _, s1 _ _ h1⟩, b, dx, _, _, rfl, s1 _ _ h1, rfl, pa, rfl, ⟨_, _, s1 _ _ e1⟩, _, d, s.1, s.2, rfl, h2.same s1, by decide, fun p3 i3 => ⟨_, .inr (.of upd_same), rfl, rfl, d, rfl, .inl ⟨by omega, by omega⟩, _, _, rfl, rfl, k1, _, rfl, ?_⟩⟩
    rw [if_neg (by simp)]
    have s2 := s1.trans (same_upd (o := .tup [.str "amount", .str "visits"]) i3)
    refine ⟨l, _, rfl, .inl (.of (same_upd i3 _ _ hl1)), _, _, _, rfl, rfl, k1, k2, 3, rfl, rfl, ?_⟩
    have hin : inV (.str "rename") [.str "amount", .str "visits"] = false := by decide +kernel
    rw [hin]
    rw [if_neg (by simp)]
    refine ⟨l, _, rfl, .inl (.of (same_upd i3 _ _ hl1)), rfl, rfl, false, rfl, ?_⟩
    rw [if_neg (by decide)]
    refine ⟨_, _, s2 _ _ hk, rfl, l, _, rfl, .inl (.of (same_upd i3 _ _ hl1)), fun p4 i4 => ?_⟩
    have s4 := s2.trans (same_upd (o := .lst (([("zz" : Str), ("q" : Str)] : List Str).map V.str)) i4)
    exact ⟨k, b, pl, fl, d, s, _, fs, p4, "rename", [("zz" : Str), ("q" : Str)], rfl, .inl (.of upd_same), ⟨_, s4 _ _ hk⟩, hB.same s4, hp1, hf1, .inl ⟨_, _, rfl, rfl, ho, fun H' fl' e1 e2 e3 => hq H' fl' ((SP.of s4).trans e1) (s4.free e2) e3⟩⟩
  ·
    have hP : Txt.partition "drop q" " " = (("drop" : Str), (" " : Str), ("q" : Str)) := by decide +kernel
    simp only [hP]
    refine ⟨by decide, by rw [sizeLine_eq]; decide, fun t ht => ⟨_, .of upd_same, rfl, _, _, rfl, _, _, rfl, _, _, rfl, rfl, by decide, fun t2 ht2 => ⟨_, .inr (.of upd_same), rfl, rfl, ?_⟩⟩⟩
    have s0 := (same_upd (o := .tup [.str "drop", .str " ", .str "q"]) ht).trans (same_upd (o := .tup [.str "define", .str "redefine"]) ht2)
    have hS : Txt.split "drop q" " " = [("drop" : Str), ("q" : Str)] := by decide +kernel
    simp only [hS]
    rw [if_neg (by decide)]
    refine ⟨by decide, by rw [sizeLine_eq]; decide, fun l hl => ?_⟩
    have s1 := s0.trans (same_upd (o := .lst ([("drop" : Str), ("q" : Str)].map V.str)) hl)
    have hl1 : upd _ l (.lst ([("drop" : Str), ("q" : Str)].map V.str)) l = _ := upd_same (H := upd (upd H t (.tup [.str "drop", .str " ", .str "q"])) t2 (.tup [.str "define", .str "redefine"]))
    obtain ⟨pa, dx2, kd, kn2, val, rfl, e1, e2, e3, e4⟩ := id h2
    obtain ⟨u0, k1, k2⟩ := T.v_COUNTS ("drop", 2) (by simp)
    refine ⟨_, _, s1 _ _ hk, _, rfl, b, rfl, ⟨_, _, s1 _ _ h1⟩, b, dx, _, _, rfl, s1 _ _ h1, rfl, pa, rfl, ⟨_, _, s1 _ _ e1⟩, _, d, s.1, s.2, rfl, h2.same s1, by decide, fun p3 i3 => ⟨_, .inr (.of upd_same), rfl, rfl, d, rfl, .inl ⟨by omega, by omega⟩, _, _, rfl, rfl, k1, _, rfl, ?_⟩⟩
    rw [if_neg (by simp)]
    have s2 := s1.trans (same_upd (o := .tup [.str "amount", .str "visits"]) i3)
    refine ⟨l, _, rfl, .inl (.of (same_upd i3 _ _ hl1)), _, _, _, rfl, rfl, k1, k2, 2, rfl, rfl, ?_⟩
    have hin : inV (.str "drop") [.str "amount", .str "visits"] = false := by decide +kernel
    rw [hin]
    rw [if_neg (by simp)]
    refine ⟨l, _, rfl, .inl (.of (same_upd i3 _ _ hl1)), rfl, rfl, false, rfl, ?_⟩
    rw [if_neg (by decide)]
    refine ⟨_, _, s2 _ _ hk, rfl, l, _, rfl, .inl (.of (same_upd i3 _ _ hl1)), fun p4 i4 => ?_⟩
    have s4 := s2.trans (same_upd (o := .lst (([("q" : Str)] : List Str).map V.str)) i4)
    exact ⟨k, b, pl, fl, d, s, _, fs, p4, "drop", [("q" : Str)], rfl, .inl (.of upd_same), ⟨_, s4 _ _ hk⟩, hB.same s4, hp1, hf1, .inr (.inl ⟨_, rfl, rfl, ho, fun H' fl' e1 e2 e3 => hq H' fl' ((SP.of s4).trans e1) (s4.free e2) e3⟩)⟩
  ·
    have hP : Txt.partition "total zz" " " = (("total" : Str), (" " : Str), ("zz" : Str)) := by decide +kernel
    simp only [hP]
    refine ⟨by decide, by rw [sizeLine_eq]; decide, fun t ht => ⟨_, .of upd_same, rfl, _, _, rfl, _, _, rfl, _, _, rfl, rfl, by decide, fun t2 ht2 => ⟨_, .inr (.of upd_same), rfl, rfl, ?_⟩⟩⟩
    have s0 := (same_upd (o := .tup [.str "total", .str " ", .str "zz"]) ht).trans (same_upd (o := .tup [.str "define", .str "redefine"]) ht2)
    have hS : Txt.split "total zz" " " = [("total" : Str), ("zz" : Str)] := by decide +kernel
    simp only [hS]
    rw [if_neg (by decide)]
    refine ⟨by decide, by rw [sizeLine_eq]; decide, fun l hl => ?_⟩
    have s1 := s0.trans (same_upd (o := .lst ([("total" : Str), ("zz" : Str)].map V.str)) hl)
    have hl1 : upd _ l (.lst ([("total" : Str), ("zz" : Str)].map V.str)) l = _ := upd_same (H := upd (upd H t (.tup [.str "total", .str " ", .str "zz"])) t2 (.tup [.str "define", .str "redefine"]))
    obtain ⟨pa, dx2, kd, kn2, val, rfl, e1, e2, e3, e4⟩ := id h2
    obtain ⟨u0, k1, k2⟩ := T.v_COUNTS ("total", 2) (by simp)
    refine ⟨_, _, s1 _ _ hk, _, rfl, b, rfl, ⟨_, _, s1 _ _ h1⟩, b, dx, _, _, rfl, s1 _ _ h1, rfl, pa, rfl, ⟨_, _, s1 _ _ e1⟩, _, d, s.1, s.2, rfl, h2.same s1, by decide, fun p3 i3 => ⟨_, .inr (.of upd_same), rfl, rfl, d, rfl, .inl ⟨by omega, by omega⟩, _, _, rfl, rfl, k1, _, rfl, ?_⟩⟩
    rw [if_neg (by simp)]
    have s2 := s1.trans (same_upd (o := .tup [.str "amount", .str "visits"]) i3)
    refine ⟨l, _, rfl, .inl (.of (same_upd i3 _ _ hl1)), _, _, _, rfl, rfl, k1, k2, 2, rfl, rfl, ?_⟩
    have hin : inV (.str "total") [.str "amount", .str "visits"] = false := by decide +kernel
    rw [hin]
    rw [if_neg (by simp)]
    refine ⟨l, _, rfl, .inl (.of (same_upd i3 _ _ hl1)), rfl, rfl, false, rfl, ?_⟩
    rw [if_neg (by decide)]
    refine ⟨_, _, s2 _ _ hk, rfl, l, _, rfl, .inl (.of (same_upd i3 _ _ hl1)), fun p4 i4 => ?_⟩
    have s4 := s2.trans (same_upd (o := .lst (([("zz" : Str)] : List Str).map V.str)) i4)
    exact ⟨k, b, pl, fl, d, s, _, fs, p4, "total", [("zz" : Str)], rfl, .inl (.of upd_same), ⟨_, s4 _ _ hk⟩, hB.same s4, hp1, hf1, .inr (.inr (.inl ⟨_, _, rfl, rfl, hz, hn, hn2, fun H' s5 => hq _ (s4.trans s5)⟩))⟩
  ·
    have hP : Txt.partition "undo" " " = (("undo" : Str), ("" : Str), ("" : Str)) := by decide +kernel
    simp only [hP]
    refine ⟨by decide, by rw [sizeLine_eq]; decide, fun t ht => ⟨_, .of upd_same, rfl, _, _, rfl, _, _, rfl, _, _, rfl, rfl, by decide, fun t2 ht2 => ⟨_, .inr (.of upd_same), rfl, rfl, ?_⟩⟩⟩
    have s0 := (same_upd (o := .tup [.str "undo", .str "", .str ""]) ht).trans (same_upd (o := .tup [.str "define", .str "redefine"]) ht2)
    have hS : Txt.split "undo" " " = [("undo" : Str)] := by decide +kernel
    simp only [hS]
    rw [if_neg (by decide)]
    refine ⟨by decide, by rw [sizeLine_eq]; decide, fun l hl => ?_⟩
    have s1 := s0.trans (same_upd (o := .lst ([("undo" : Str)].map V.str)) hl)
    have hl1 : upd _ l (.lst ([("undo" : Str)].map V.str)) l = _ := upd_same (H := upd (upd H t (.tup [.str "undo", .str "", .str ""])) t2 (.tup [.str "define", .str "redefine"]))
    obtain ⟨pa, dx2, kd, kn2, val, rfl, e1, e2, e3, e4⟩ := id h2
    obtain ⟨u0, k1, k2⟩ := T.v_COUNTS ("undo", 1) (by simp)
    refine ⟨_, _, s1 _ _ hk, _, rfl, b, rfl, ⟨_, _, s1 _ _ h1⟩, b, dx, _, _, rfl, s1 _ _ h1, rfl, pa, rfl, ⟨_, _, s1 _ _ e1⟩, _, d, s.1, s.2, rfl, h2.same s1, by decide, fun p3 i3 => ⟨_, .inr (.of upd_same), rfl, rfl, d, rfl, .inl ⟨by omega, by omega⟩, _, _, rfl, rfl, k1, _, rfl, ?_⟩⟩
    rw [if_neg (by simp)]
    have s2 := s1.trans (same_upd (o := .tup [.str "amount", .str "visits"]) i3)
    refine ⟨l, _, rfl, .inl (.of (same_upd i3 _ _ hl1)), _, _, _, rfl, rfl, k1, k2, 1, rfl, rfl, ?_⟩
    have hin : inV (.str "undo") [.str "amount", .str "visits"] = false := by decide +kernel
    rw [hin]
    rw [if_neg (by simp)]
    refine ⟨l, _, rfl, .inl (.of (same_upd i3 _ _ hl1)), rfl, rfl, false, rfl, ?_⟩
    rw [if_neg (by decide)]
    refine ⟨_, _, s2 _ _ hk, rfl, l, _, rfl, .inl (.of (same_upd i3 _ _ hl1)), fun p4 i4 => ?_⟩
    have s4 := s2.trans (same_upd (o := .lst (([] : List Str).map V.str)) i4)
    exact ⟨k, b, pl, fl, d, s, _, fs, p4, "undo", [], rfl, .inl (.of upd_same), ⟨_, s4 _ _ hk⟩, hB.same s4, hp1, hf1, .inr (.inr (.inr (.inl ⟨_, _, rfl, rfl, fun H' e1 e2 => hq _ ((SP.of s4).trans e1) e2⟩)))⟩
  ·
    have hP : Txt.partition "names" " " = (("names" : Str), ("" : Str), ("" : Str)) := by decide +kernel
    simp only [hP]
    refine ⟨by decide, by rw [sizeLine_eq]; decide, fun t ht => ⟨_, .of upd_same, rfl, _, _, rfl, _, _, rfl, _, _, rfl, rfl, by decide, fun t2 ht2 => ⟨_, .inr (.of upd_same), rfl, rfl, ?_⟩⟩⟩
    have s0 := (same_upd (o := .tup [.str "names", .str "", .str ""]) ht).trans (same_upd (o := .tup [.str "define", .str "redefine"]) ht2)
    have hS : Txt.split "names" " " = [("names" : Str)] := by decide +kernel
    simp only [hS]
    rw [if_neg (by decide)]
    refine ⟨by decide, by rw [sizeLine_eq]; decide, fun l hl => ?_⟩
    have s1 := s0.trans (same_upd (o := .lst ([("names" : Str)].map V.str)) hl)
    have hl1 : upd _ l (.lst ([("names" : Str)].map V.str)) l = _ := upd_same (H := upd (upd H t (.tup [.str "names", .str "", .str ""])) t2 (.tup [.str "define", .str "redefine"]))
    obtain ⟨pa, dx2, kd, kn2, val, rfl, e1, e2, e3, e4⟩ := id h2
    obtain ⟨u0, k1, k2⟩ := T.v_COUNTS ("names", 1) (by simp)
    refine ⟨_, _, s1 _ _ hk, _, rfl, b, rfl, ⟨_, _, s1 _ _ h1⟩, b, dx, _, _, rfl, s1 _ _ h1, rfl, pa, rfl, ⟨_, _, s1 _ _ e1⟩, _, d, s.1, s.2, rfl, h2.same s1, by decide, fun p3 i3 => ⟨_, .inr (.of upd_same), rfl, rfl, d, rfl, .inl ⟨by omega, by omega⟩, _, _, rfl, rfl, k1, _, rfl, ?_⟩⟩
    rw [if_neg (by simp)]
    have s2 := s1.trans (same_upd (o := .tup [.str "amount", .str "visits"]) i3)
    refine ⟨l, _, rfl, .inl (.of (same_upd i3 _ _ hl1)), _, _, _, rfl, rfl, k1, k2, 1, rfl, rfl, ?_⟩
    have hin : inV (.str "names") [.str "amount", .str "visits"] = false := by decide +kernel
    rw [hin]
    rw [if_neg (by simp)]
    refine ⟨l, _, rfl, .inl (.of (same_upd i3 _ _ hl1)), rfl, rfl, false, rfl, ?_⟩
    rw [if_neg (by decide)]
    refine ⟨_, _, s2 _ _ hk, rfl, l, _, rfl, .inl (.of (same_upd i3 _ _ hl1)), fun p4 i4 => ?_⟩
    have s4 := s2.trans (same_upd (o := .lst (([] : List Str).map V.str)) i4)
    exact ⟨k, b, pl, fl, d, s, _, fs, p4, "names", [], rfl, .inl (.of upd_same), ⟨_, s4 _ _ hk⟩, hB.same s4, hp1, hf1, .inr (.inr (.inr (.inr ⟨rfl, hn, fun H' s5 => hq _ (s4.trans s5)⟩)))⟩
end Sf

/-! ### the law's own defs -/
namespace Sf
open PySem PySem.Spec PyProof.Rows L2
theorem cut63 {xs : List V} (h : xs.length ≤ 63) : cutV xs none (some 63) = xs := by
  have e1 : HT.sIx xs.length 0 none = 0 := rfl
  have e2 : xs.length ≤ HT.sIx xs.length xs.length (some 63) := by
    unfold HT.sIx
    simp
    omega
  unfold cutV
  rw [e1, List.drop_zero, Nat.sub_zero, List.take_of_length_le e2]
/-! _law_a_box -/
def sp__law_a_box (K : PySem.W.Frag) : Sp := fun vs H Q E => ∃ (l : Addr) (ns : List Int), vs = [.ref l] ∧ SqL K H l (ns.map V.int) ∧ ns.length ≤ 63 ∧ ∀ H' b c m, Same H H' → H b = none → H' b = some (.lst [.ref c, .int 0, .int 0, .int m]) → SqL K H' c (ns.map V.int) → b ≠ c → Q (.ref b) H'
abbrev sc__law_a_boxN : List Str := ["_law_script", "_law_cells", "_law_mark", "_law_cell"]
theorem sc__law_a_box : FnScope sc__law_a_boxN ["_law_script"] (defScope (topS 126)) := ⟨rfl, rfl, rfl, by decide +kernel, rfl, by decide +kernel, by decide +kernel⟩
theorem r__law_a_box {P : Program} {w : World} {K : PySem.W.Frag} {mg : Str → Option Value} {base : Heap} (T : Tx w K mg) : FnR P w K mg base (L2.CX P w) 1 (He.ga K "_law_a_box") (sp__law_a_box K) := by
  refine mkR T.f__law_a_box sc__law_a_box (fun _ _ _ _ _ _ us hl => match us, hl with | [_], _ => rfl) (fun vs H Q E h => by obtain ⟨l, ns, rfl, hl, hn, hq⟩ := h; rfl) (fun cdv A outer s H vs Q E hr h => ?_)
  obtain ⟨l, ns, rfl, hl, hn, hq⟩ := h
  refine ⟨_, (pss_cons (ps_set (i := 1) sc__law_a_box.nd rfl (Or.inl rfl) (pe_callTy (r := rListOf K) call_listS (by rfl) T.n_list (by decide +kernel) (pa_cons (pe_slice (r := rSlL K) sl_list (pv 0) po_none (po_some (pe_int))) pa_nil))) (pss_cons (ps_set (i := 2) sc__law_a_box.nd rfl (Or.inl rfl) (pe_op op_add (pe_int) (pe_op op_mul (pe_int) (pe_callB (r := rLenS K) call_lenS (by rfl) T.n_len boot_len (pa_cons (pv 1) pa_nil))))) (pss_cons (ps_for (passes_of rfl) rfl (pi_list (pv 1)) (pg_name (i := 3) sc__law_a_box.nd rfl (Or.inl rfl)) (pss_one (ps_set (i := 2) sc__law_a_box.nd rfl (Or.inl rfl) (pe_op op_mod (pe_op op_add (pe_op op_mul (pv 2) (pe_int)) (pv 3)) (pe_int))))) (pss_one (ps_ret (pe_lst (pa_cons (pv 1) (pa_cons (pe_int) (pa_cons (pe_int) (pa_cons (pv 2) pa_nil)))))))))), ?_⟩
  refine start_of (σ := [some (.ref l), none, none, none]) rfl ?_
  simp only [rd, rd2, rd3, rd4, rd5, List.getElem?_cons_zero, List.getElem?_cons_succ, Option.some.injEq, exists_eq_left', exists_eq_left, exists_and_left, exists_and_right, List.cons.injEq, V.str.injEq, V.int.injEq, V.bl.injEq, V.ref.injEq, V.ty.injEq, and_true, true_and, List.set_cons_zero, List.set_cons_succ, exists_const, exists_false, reduceCtorEq, ↓reduceIte, exists_eq, exists_eq', and_self, cxK, wipe, List.map_cons, List.map_nil, List.length_cons, List.length_nil, Nat.zero_add, Nat.reduceAdd, Int.cast_ofNat_Int, Int.reduceEq, Int.reduceLE, Int.reduceLT, decide_eq_true_eq, decide_true, decide_false, Bool.true_eq_false, Bool.false_eq_true, Bool.not_true, Bool.not_false]
  refine ⟨l, _, rfl, hl, fun p hp => ?_⟩
  rw [cut63 (by rw [List.length_map]; exact hn)]
  refine ⟨p, _, rfl, .inl (.of upd_same), fun c hc => ⟨c, _, rfl, .inl (.of upd_same), _, rfl, .inl (by decide), c, rfl, ⟨_, .of upd_same⟩, ?_⟩⟩
  have s0 := (same_upd (o := .lst (ns.map V.int)) hp).trans (same_upd (o := .lst (ns.map V.int)) hc)
  refine forK (walk_list (xs := ns.map V.int)) (fun i σ' H' => H' = upd (upd H p (.lst (ns.map V.int))) c (.lst (ns.map V.int)) ∧ ∃ m v, σ' = [some (.ref l), some (.ref c), some (.int m), v]) ⟨rfl, _, _, rfl⟩ (fun i σ H' _ e => .of (by rw [e.1, upd_same])) (fun i x σ H1 H2 hi e y => ?_) fun σ' H' e => ?_
  · obtain ⟨rfl, m, v, rfl⟩ := e
    obtain ⟨rfl, hx⟩ := y
    rw [List.getElem?_map] at hx
    cases hz : ns[i]? with
    | none => rw [hz] at hx; cases hx
    | some z =>
      rw [hz] at hx
      obtain rfl : V.int z = x := Option.some.inj hx
      simp only [rd, rd2, rd3, rd4, rd5, List.getElem?_cons_zero, List.getElem?_cons_succ, Option.some.injEq, exists_eq_left', exists_eq_left, exists_and_left, exists_and_right, List.cons.injEq, V.str.injEq, V.int.injEq, V.bl.injEq, V.ref.injEq, V.ty.injEq, and_true, true_and, List.set_cons_zero, List.set_cons_succ, exists_const, exists_false, reduceCtorEq, ↓reduceIte, exists_eq, exists_eq', and_self, cxK, wipe, List.map_cons, List.map_nil, List.length_cons, List.length_nil, Nat.zero_add, Nat.reduceAdd, Int.cast_ofNat_Int, Int.reduceEq, Int.reduceLE, Int.reduceLT, decide_eq_true_eq, decide_true, decide_false, Bool.true_eq_false, Bool.false_eq_true, Bool.not_true, Bool.not_false]
      exact .inr (by decide)
  · obtain ⟨rfl, m, v, rfl⟩ := e
    simp only [rd, rd2, rd3, rd4, rd5, List.getElem?_cons_zero, List.getElem?_cons_succ, Option.some.injEq, exists_eq_left', exists_eq_left, exists_and_left, exists_and_right, List.cons.injEq, V.str.injEq, V.int.injEq, V.bl.injEq, V.ref.injEq, V.ty.injEq, and_true, true_and, List.set_cons_zero, List.set_cons_succ, exists_const, exists_false, reduceCtorEq, ↓reduceIte, exists_eq, exists_eq', and_self, cxK, wipe, List.map_cons, List.map_nil, List.length_cons, List.length_nil, Nat.zero_add, Nat.reduceAdd, Int.cast_ofNat_Int, Int.reduceEq, Int.reduceLE, Int.reduceLT, decide_eq_true_eq, decide_true, decide_false, Bool.true_eq_false, Bool.false_eq_true, Bool.not_true, Bool.not_false]
    refine ⟨by rw [sizeLine_eq]; decide, fun b hb => hq _ b c m (s0.trans (same_upd hb)) ?_ upd_same (.of (same_upd hb _ _ upd_same)) (ne_of_none upd_same hb).symm⟩
    cases h : H b with
    | none => rfl
    | some o => rw [s0 _ _ h] at hb; cases hb
theorem rdS : (∀ to ti t v σ H Q, gSub to ti t v σ H Q ↔ to σ H fun o H1 => ti σ H1 fun i H2 => t o i v H2 fun H3 => Q σ H3) ∧
    (∀ o i v H Q, rSetL o i v H Q ↔ ∃ p xs k j, o = .ref p ∧ i = .int k ∧ H p = some (.lst xs) ∧ ixN xs.length k = some j ∧ Q (upd H p (.lst (xs.set j v)))) :=
  ⟨fun _ _ _ _ _ _ _ => Iff.rfl, fun _ _ _ _ _ => Iff.rfl⟩
theorem SX.seq {K : PySem.W.Frag} {x a : Addr} {xs : List V} {H H' : Hp} (s : SX x H H') (n : x ≠ a) (h : SqL K H a xs) : SqL K H' a xs :=
  h.imp (fun r => r.imp (fun e => s _ _ e n.symm) fun ⟨o, e⟩ => ⟨o, s _ _ e n.symm⟩) id
theorem at_int {ns : List Int} {i : Int} (h0 : 0 ≤ i) (h1 : i < ns.length) : ∃ z, atI (ns.map V.int) i = some (.int z) := by
  have e : ixN (ns.map V.int).length i = some i.toNat := by
    unfold ixN
    rw [List.length_map, if_pos h0, if_pos h1]
  have hl : i.toNat < ns.length := by omega
  refine ⟨ns[i.toNat], ?_⟩
  unfold atI
  rw [e]
  show (ns.map V.int)[i.toNat]? = _
  rw [List.getElem?_map, List.getElem?_eq_getElem hl] <;> rfl
theorem mod_sq (x : Int) : CMul (x % 2147483647) (x % 2147483647) := by
  have h1 := Int.emod_nonneg x (show (2147483647 : Int) ≠ 0 by decide)
  have h2 := Int.emod_lt_of_pos x (show (0 : Int) < 2147483647 by decide)
  exact .inl ⟨Int.lt_of_lt_of_le (by decide) h1, Int.lt_trans h2 (by decide)⟩
/-! _law_draw -/
def sp__law_draw (K : PySem.W.Frag) : Sp := fun vs H Q E => ∃ (b c : Addr) (i d k m : Int) (ns : List Int), vs = [.ref b, .int m] ∧ H b = some (.lst [.ref c, .int i, .int d, .int k]) ∧ SqL K H c (ns.map V.int) ∧ b ≠ c ∧ ns.length ≤ 63 ∧ 0 ≤ i ∧ i < 1000 ∧ 1 ≤ m ∧ m < 1000 ∧
  ∀ H' r i' d', SX b H H' → H' b = some (.lst [.ref c, .int i', .int d', .int k]) → SqL K H' c (ns.map V.int) → 0 ≤ i' → i' ≤ i + 1 → 0 ≤ r → r < m → Q (.int r) H'
abbrev sc__law_drawN : List Str := ["_law_box", "_law_many", "_law_seed", "_law_fold", "_law_twist", "_law_drawn"]
theorem sc__law_draw : FnScope sc__law_drawN ["_law_box", "_law_many"] (defScope (topS 127)) := ⟨rfl, rfl, rfl, by decide +kernel, rfl, by decide +kernel, by decide +kernel⟩
theorem r__law_draw {P : Program} {w : World} {K : PySem.W.Frag} {mg : Str → Option Value} {base : Heap} (T : Tx w K mg) : FnR P w K mg base (L2.CX P w) 1 (He.ga K "_law_draw") (sp__law_draw K) := by
  refine mkR T.f__law_draw sc__law_draw (fun _ _ _ _ _ _ us hl => match us, hl with | [_, _], _ => rfl) (fun vs H Q E h => by obtain ⟨b, c, i, d, k, m, ns, rfl, hb, hc, hbc, hn, i0, i1, m0, m1, hq⟩ := h; rfl) (fun cdv A outer s H vs Q E hr h => ?_)
  obtain ⟨b, c, i, d, k, m, ns, rfl, hb, hc, hbc, hn, i0, i1, m0, m1, hq⟩ := h
  refine ⟨_, (pss_cons (ps_if (pt_cmpR op_lt (pe_ix (r := rIxL K) ix_list (pv 0) (pe_int) (fun _ _ => rfl)) (pe_int) (nomark _)) (pss_cons (ps_asg (pe_op op_add (pe_ix (r := rIxL K) ix_list (pv 0) (pe_int) (fun _ _ => rfl)) (pe_int)) (pg_sub (pv 0) (pe_int) set_list)) (pss_cons (ps_set (i := 2) sc__law_draw.nd rfl (Or.inl rfl) (pe_op op_add (pe_ix (r := rIxL K) ix_list (pv 0) (pe_int) (fun _ _ => rfl)) (pe_op op_mul (pe_ix (r := rIxL K) ix_list (pv 0) (pe_int) (fun _ _ => rfl)) (pe_int)))) (pss_cons (ps_if (pt_cmpR op_le (pe_ix (r := rIxL K) ix_list (pv 0) (pe_int) (fun _ _ => rfl)) (pe_callB (r := rLenS K) call_lenS (by rfl) T.n_len boot_len (pa_cons (pe_ix (r := rIxL K) ix_list (pv 0) (pe_int) (fun _ _ => rfl)) pa_nil)) (nomark _)) (pss_one (ps_set (i := 2) sc__law_draw.nd rfl (Or.inl rfl) (pe_ix (r := rIxL K) ix_list (pe_ix (r := rIxL K) ix_list (pv 0) (pe_int) (fun _ _ => rfl)) (pe_op op_sub (pe_ix (r := rIxL K) ix_list (pv 0) (pe_int) (fun _ _ => rfl)) (pe_int)) (fun _ _ => rfl)))) pss_nil) (pss_cons (ps_if (PW.pt (pw_or (pt_cmpR op_gt (pe_ix (r := rIxL K) ix_list (pv 0) (pe_int) (fun _ _ => rfl)) (pe_callB (r := rLenS K) call_lenS (by rfl) T.n_len boot_len (pa_cons (pe_ix (r := rIxL K) ix_list (pv 0) (pe_int) (fun _ _ => rfl)) pa_nil)) (nomark _)) (pw_or1 (pt_cmpR op_lt (pv 2) (pe_op op_pow (pe_int) (pe_int)) (nomark _))))) (pss_cons (ps_set (i := 3) sc__law_draw.nd rfl (Or.inl rfl) (pe_op op_mod (pe_op op_add (pe_op op_add (pe_op op_mul (pv 2) (pe_int)) (pe_op op_mul (pe_ix (r := rIxL K) ix_list (pv 0) (pe_int) (fun _ _ => rfl)) (pe_int))) (pe_ix (r := rIxL K) ix_list (pv 0) (pe_int) (fun _ _ => rfl))) (pe_int))) (pss_cons (ps_set (i := 4) sc__law_draw.nd rfl (Or.inl rfl) (pe_op op_mod (pe_op op_add (pe_op op_mul (pv 3) (pv 3)) (pe_ix (r := rIxL K) ix_list (pv 0) (pe_int) (fun _ _ => rfl))) (pe_int))) (pss_one (ps_ret (pe_op op_mod (pe_op op_fdiv (pe_op op_mod (pe_op op_add (pe_op op_mul (pv 4) (pe_int)) (pv 3)) (pe_int)) (pe_int)) (pv 1)))))) pss_nil) (pss_one (ps_asg (pv 2) (pg_sub (pv 0) (pe_int) set_list))))))) pss_nil) (pss_cons (ps_set (i := 5) sc__law_draw.nd rfl (Or.inl rfl) (pe_op op_mod (pe_ix (r := rIxL K) ix_list (pv 0) (pe_int) (fun _ _ => rfl)) (pv 1))) (pss_cons (ps_asg (pe_op op_fdiv (pe_ix (r := rIxL K) ix_list (pv 0) (pe_int) (fun _ _ => rfl)) (pv 1)) (pg_sub (pv 0) (pe_int) set_list)) (pss_one (ps_ret (pv 5)))))), ?_⟩
  refine start_of (σ := [some (.ref b), some (.int m), none, none, none, none]) rfl ?_
  simp only [rd, rd2, rd3, rd4, rd5, List.getElem?_cons_zero, List.getElem?_cons_succ, Option.some.injEq, exists_eq_left', exists_eq_left, exists_and_left, exists_and_right, List.cons.injEq, V.str.injEq, V.int.injEq, V.bl.injEq, V.ref.injEq, V.ty.injEq, and_true, true_and, List.set_cons_zero, List.set_cons_succ, exists_const, exists_false, reduceCtorEq, ↓reduceIte, exists_eq, exists_eq', and_self, cxK, wipe, List.map_cons, List.map_nil, List.length_cons, List.length_nil, Nat.zero_add, Nat.reduceAdd, Int.cast_ofNat_Int, Int.reduceEq, Int.reduceLE, Int.reduceLT, decide_eq_true_eq, decide_true, decide_false, Bool.true_eq_false, Bool.false_eq_true, Bool.not_true, Bool.not_false]
  refine ⟨_, .of hb, _, rfl, _, rfl, ?_⟩
  by_cases hd : d < 2
  · rw [if_pos hd]
    refine ⟨_, .of hb, _, rfl, _, rfl, ?_⟩
    simp only [rd, rd2, rd3, rd4, rd5, List.getElem?_cons_zero, List.getElem?_cons_succ, Option.some.injEq, exists_eq_left', exists_eq_left, exists_and_left, exists_and_right, List.cons.injEq, V.str.injEq, V.int.injEq, V.bl.injEq, V.ref.injEq, V.ty.injEq, and_true, true_and, List.set_cons_zero, List.set_cons_succ, exists_const, exists_false, reduceCtorEq, ↓reduceIte, exists_eq, exists_eq', and_self, cxK, wipe, List.map_cons, List.map_nil, List.length_cons, List.length_nil, Nat.zero_add, Nat.reduceAdd, Int.cast_ofNat_Int, Int.reduceEq, Int.reduceLE, Int.reduceLT, decide_eq_true_eq, decide_true, decide_false, Bool.true_eq_false, Bool.false_eq_true, Bool.not_true, Bool.not_false, rdS]
    refine ⟨_, hb, _, rfl, ?_⟩
    generalize e1 : upd H b _ = H1
    have sx : SX b H H1 := e1 ▸ SX.upd
    have hb1 : H1 b = some (.lst [.ref c, .int (i + 1), .int d, .int k]) := e1 ▸ upd_same
    have hc1 : SqL K H1 c (ns.map V.int) := sx.seq hbc hc
    refine ⟨_, .of hb1, _, rfl, _, .of hb1, _, rfl, _, rfl, .inr (by decide), _, rfl, _, .of hb1, _, rfl, _, .of hb1, _, rfl, ⟨c, _, rfl, .inl hc1, _, rfl, _, rfl, ?_⟩⟩
    rw [List.length_map]
    by_cases hle : i + 1 ≤ ns.length
    · rw [if_pos hle]
      refine ⟨_, .of hb1, _, rfl, _, .of hb1, _, rfl, _, rfl, ?_⟩
      obtain ⟨z, hz⟩ := at_int (ns := ns) (i := i + 1 - 1) (by omega) (by omega)
      refine ⟨c, _, _, _, rfl, rfl, hc1, hz, ?_⟩
      refine ⟨_, .of hb1, _, rfl, _, .of hb1, _, rfl, ⟨c, _, rfl, .inl hc1, _, rfl, _, rfl, ?_⟩⟩
      rw [List.length_map, if_neg (by omega)]
      refine ⟨⟨by decide, by decide, by decide⟩, _, rfl, ?_⟩
      by_cases h18 : z < 10 ^ Int.toNat 18
      · rw [if_pos h18]
        refine ⟨_, rfl, .inr (by decide), _, .of hb1, _, rfl, _, rfl, .inr (by decide), _, .of hb1, _, rfl, _, rfl, mod_sq _, _, .of hb1, _, rfl, _, rfl, .inr (by decide), ⟨by decide, by decide⟩, by omega, ?_⟩
        exact hq _ _ (i + 1) d sx hb1 hc1 (by omega) (by omega) (Int.emod_nonneg _ (by omega)) (Int.emod_lt_of_pos _ (by omega))
      · rw [if_neg h18]
        refine ⟨_, hb1, _, rfl, _, .of upd_same, _, rfl, _, rfl, by omega, _, .of upd_same, _, rfl, _, rfl, ⟨by omega, by omega⟩, _, upd_same, _, rfl, ?_⟩
        exact hq _ _ (i + 1) (z / m) (sx.trans (SX.upd.trans SX.upd)) upd_same ((SX.upd.trans SX.upd).seq hbc hc1) (by omega) (by omega) (Int.emod_nonneg _ (by omega)) (Int.emod_lt_of_pos _ (by omega))
    · rw [if_neg hle]
      refine ⟨_, .of hb1, _, rfl, _, .of hb1, _, rfl, ⟨c, _, rfl, .inl hc1, _, rfl, _, rfl, ?_⟩⟩
      rw [List.length_map, if_pos (by omega)]
      refine ⟨.inr (by decide), _, .of hb1, _, rfl, _, rfl, .inr (by decide), _, .of hb1, _, rfl, _, rfl, mod_sq _, _, .of hb1, _, rfl, _, rfl, .inr (by decide), ⟨by decide, by decide⟩, by omega, ?_⟩
      exact hq _ _ (i + 1) d sx hb1 hc1 (by omega) (by omega) (Int.emod_nonneg _ (by omega)) (Int.emod_lt_of_pos _ (by omega))
  · rw [if_neg hd]
    refine ⟨_, .of hb, _, rfl, _, rfl, by omega, _, .of hb, _, rfl, _, rfl, ⟨by omega, by omega⟩, ?_⟩
    simp only [rd, rd2, rd3, rd4, rd5, List.getElem?_cons_zero, List.getElem?_cons_succ, Option.some.injEq, exists_eq_left', exists_eq_left, exists_and_left, exists_and_right, List.cons.injEq, V.str.injEq, V.int.injEq, V.bl.injEq, V.ref.injEq, V.ty.injEq, and_true, true_and, List.set_cons_zero, List.set_cons_succ, exists_const, exists_false, reduceCtorEq, ↓reduceIte, exists_eq, exists_eq', and_self, cxK, wipe, List.map_cons, List.map_nil, List.length_cons, List.length_nil, Nat.zero_add, Nat.reduceAdd, Int.cast_ofNat_Int, Int.reduceEq, Int.reduceLE, Int.reduceLT, decide_eq_true_eq, decide_true, decide_false, Bool.true_eq_false, Bool.false_eq_true, Bool.not_true, Bool.not_false, rdS]
    refine ⟨_, hb, _, rfl, ?_⟩
    exact hq _ _ i (d / m) SX.upd upd_same ((SX.upd).seq hbc hc) i0 (by omega) (Int.emod_nonneg _ (by omega)) (Int.emod_lt_of_pos _ (by omega))
/-! _law_whole -/
def sp__law_whole (K : PySem.W.Frag) : Sp := fun vs H Q E => ∃ i, vs = [.int i] ∧ Q (.bl true) H
abbrev sc__law_wholeN : List Str := ["_law_found"]
theorem sc__law_whole : FnScope sc__law_wholeN ["_law_found"] (defScope (topS 128)) := ⟨rfl, rfl, rfl, by decide +kernel, rfl, by decide +kernel, by decide +kernel⟩
theorem r__law_whole {P : Program} {w : World} {K : PySem.W.Frag} {mg : Str → Option Value} {base : Heap} (T : Tx w K mg) : FnR P w K mg base (L2.CX P w) 1 (He.ga K "_law_whole") (sp__law_whole K) := by
  refine mkR T.f__law_whole sc__law_whole (fun _ _ _ _ _ _ us hl => match us, hl with | [_], _ => rfl) (fun vs H Q E h => by obtain ⟨i, rfl, hq⟩ := h; rfl) (fun cdv A outer s H vs Q E hr h => ?_)
  obtain ⟨i, rfl, hq⟩ := h
  refine ⟨_, (pss_one (ps_ret (pe_and (pe_callB (r := rIsi K) call_isi (by rfl) T.n_isinstance (by decide +kernel) (pa_cons (pv 0) (pa_cons (pe_bltn (v := .ty "int") (u := .type "int") (by rfl) T.n_int (by decide +kernel) rfl) pa_nil))) (pe_one (pe_not (pe_callB (r := rIsi K) call_isi (by rfl) T.n_isinstance (by decide +kernel) (pa_cons (pv 0) (pa_cons (pe_bltn (v := .ty "bool") (u := .type "bool") (by rfl) T.n_bool (by decide +kernel) rfl) pa_nil)))))))), ?_⟩
  refine start_of (σ := [some (.int i)]) rfl ?_
  refine ⟨_, rfl, _, _, _, _, true, rfl, .ty "int", .base (.int i), kit_ty (by decide +kernel), true, rfl, ?_⟩
  rw [if_pos rfl]
  refine ⟨_, rfl, _, _, _, _, false, rfl, .ty "bool", .base (.int i), kit_ty (by decide +kernel), false, rfl, ?_⟩
  exact hq
/-! _law_same -/
def LfE (x y : V) : Prop := x = y ∧ ((∃ z, x = .str z) ∨ ∃ i, x = .int i)
theorem isi {K : PySem.W.Frag} {H : Hp} {Q : VK} {x : V} {n m : String} {b : Bool} (h : TyX K H x (.type n)) (e : kitB n m = some b) (q : Q (.bl b) H) : rIsi K [x, .ty m] H Q := ⟨_, _, _, _, b, rfl, .ty m, h, kit_ty e, q⟩
/-- two lists, two tuples, of one length -/
def Two (K : PySem.W.Frag) (H : Hp) (a b : Addr) (xs ys : List V) : Prop := (H a = some (.lst xs) ∧ H b = some (.lst ys)) ∨ (SqT K H a xs ∧ SqT K H b ys)
def sp_sameG (K : PySem.W.Frag) (R : Sp) : Sp := fun vs H Q E => ∃ x y, vs = [x, y] ∧ ((LfE x y ∧ Q (.bl true) H) ∨ ∃ a b xs ys, x = .ref a ∧ y = .ref b ∧ Two K H a b xs ys ∧ xs.length = ys.length ∧ xs.length ≤ 1000 ∧
  (∀ (i : Nat) u v H' (Z : VK), xs[i]? = some u → ys[i]? = some v → Same H H' → (∀ H2, Same H' H2 → Z (.bl true) H2) → R [u, v] H' Z E0) ∧ ∀ H', Same H H' → Q (.bl true) H')
abbrev sc__law_sameN : List Str := ["_law_found", "_law_due", "_law_one", "_law_other"]
theorem sc__law_same : FnScope sc__law_sameN ["_law_found", "_law_due"] (defScope (topS 129)) := ⟨rfl, rfl, rfl, by decide +kernel, rfl, by decide +kernel, by decide +kernel⟩
theorem r_sameG {P : Program} {w : World} {K : PySem.W.Frag} {mg : Str → Option Value} {base : Heap} (T : Tx w K mg) {k : Nat} {R : Sp} (hk : 1 ≤ k) (F : FnR P w K mg base (L2.CX P w) k (He.ga K "_law_same") R) : FnR P w K mg base (L2.CX P w) (k + 1) (He.ga K "_law_same") (sp_sameG K R) := by
  refine mkR T.f__law_same sc__law_same (fun _ _ _ _ _ _ us hl => match us, hl with | [_, _], _ => rfl) (fun vs H Q E h => by obtain ⟨x, y, rfl, hq⟩ := h; rfl) (fun cdv A outer s H vs Q E hr h => ?_)
  obtain ⟨x, y, rfl, hq⟩ := h
  refine ⟨_, (pss_cons (ps_if (pt_cmpR op_isN (pv 1) (pe_non) (nomark _)) (pss_one (ps_ret (pe_cmpR op_isN (pv 0) (pe_non) (nomark _)))) pss_nil) (pss_cons (ps_if (pt_val (pe_callB (r := rIsi K) call_isi (by rfl) T.n_isinstance (by decide +kernel) (pa_cons (pv 1) (pa_cons (pe_bltn (v := .ty "bool") (u := .type "bool") (by rfl) T.n_bool (by decide +kernel) rfl) pa_nil)))) (pss_one (ps_ret (pe_and (pe_callB (r := rIsi K) call_isi (by rfl) T.n_isinstance (by decide +kernel) (pa_cons (pv 0) (pa_cons (pe_bltn (v := .ty "bool") (u := .type "bool") (by rfl) T.n_bool (by decide +kernel) rfl) pa_nil))) (pe_one (pe_cmpR op_eq (pv 0) (pv 1) (nomark _)))))) pss_nil) (pss_cons (ps_if (pt_val (pe_callB (r := rIsi K) call_isi (by rfl) T.n_isinstance (by decide +kernel) (pa_cons (pv 1) (pa_cons (pe_bltn (v := .ty "int") (u := .type "int") (by rfl) T.n_int (by decide +kernel) rfl) pa_nil)))) (pss_one (ps_ret (pe_and (pe_f (r__law_whole (P := P) (w := w) (K := K) (base := base) T) T.g__law_whole T.f__law_whole.keep hr passL (pa_cons (pv 0) pa_nil) (hj := hk)) (pe_one (pe_cmpR op_eq (pv 0) (pv 1) (nomark _)))))) pss_nil) (pss_cons (ps_if (pt_val (pe_callB (r := rIsi K) call_isi (by rfl) T.n_isinstance (by decide +kernel) (pa_cons (pv 1) (pa_cons (pe_bltn (v := .ty "str") (u := .type "str") (by rfl) T.n_str (by decide +kernel) rfl) pa_nil)))) (pss_one (ps_ret (pe_and (pe_callB (r := rIsi K) call_isi (by rfl) T.n_isinstance (by decide +kernel) (pa_cons (pv 0) (pa_cons (pe_bltn (v := .ty "str") (u := .type "str") (by rfl) T.n_str (by decide +kernel) rfl) pa_nil))) (pe_one (pe_cmpR op_eq (pv 0) (pv 1) (nomark _)))))) pss_nil) (pss_cons (ps_if (PW.pt (pw_or (pt_cmpR op_ne (pe_callB (r := rIsi K) call_isi (by rfl) T.n_isinstance (by decide +kernel) (pa_cons (pv 1) (pa_cons (pe_bltn (v := .ty "list") (u := .type "list") (by rfl) T.n_list (by decide +kernel) rfl) pa_nil))) (pe_callB (r := rIsi K) call_isi (by rfl) T.n_isinstance (by decide +kernel) (pa_cons (pv 0) (pa_cons (pe_bltn (v := .ty "list") (u := .type "list") (by rfl) T.n_list (by decide +kernel) rfl) pa_nil))) (nomark _)) (pw_or1 (pt_cmpR op_ne (pe_callB (r := rIsi K) call_isi (by rfl) T.n_isinstance (by decide +kernel) (pa_cons (pv 1) (pa_cons (pe_bltn (v := .ty "tuple") (u := .type "tuple") (by rfl) T.n_tuple (by decide +kernel) rfl) pa_nil))) (pe_callB (r := rIsi K) call_isi (by rfl) T.n_isinstance (by decide +kernel) (pa_cons (pv 0) (pa_cons (pe_bltn (v := .ty "tuple") (u := .type "tuple") (by rfl) T.n_tuple (by decide +kernel) rfl) pa_nil))) (nomark _))))) (pss_one (ps_ret (pe_bl))) pss_nil) (pss_cons (ps_if (pt_cmpR op_ne (pe_callB call_len (by rfl) T.n_len boot_len (pa_cons (pv 0) pa_nil)) (pe_callB call_len (by rfl) T.n_len boot_len (pa_cons (pv 1) pa_nil)) (nomark _)) (pss_one (ps_ret (pe_bl))) pss_nil) (pss_one (ps_ret (pe_callB (r := rAll K) (cr_all rfl) (by rfl) T.n_all (by decide +kernel) (pa_cons (pe_lc (own := [("_law_one", 2), ("_law_other", 3)]) (tt := tYes) rfl sc__law_same.nd (RZ.pi_zipA (by rfl) T.n_zip (pa_cons (pv 0) (pa_cons (pv 1) pa_nil))) (blkOk_by (N := sc__law_sameN) (sc := (defScope (topS 129))) (by decide +kernel)) (fun _ _ _ _ _ => (kpg (K := K) (n := 2) (pg_tup rfl (pgs_cons (pg_name (i := 2) sc__law_same.nd rfl (Or.inl rfl)) (pgs_cons (pg_name (i := 3) sc__law_same.nd rfl (Or.inl rfl)) pgs_nil))))) (fun _ _ _ _ _ => pts_nil) (fun _ _ _ _ _ => (pe_f F T.g__law_same T.f__law_same.keep hr passL (pa_cons (pv 2) (pa_cons (pv 3) pa_nil)) (hj := Nat.le_refl _)))) pa_nil)))))))))), ?_⟩
  refine start_of (σ := [some x, some y, none, none]) rfl ?_
  simp only [rd, rd2, rd3, rd4, rd5, List.getElem?_cons_zero, List.getElem?_cons_succ, Option.some.injEq, exists_eq_left', exists_eq_left, exists_and_left, exists_and_right, List.cons.injEq, V.str.injEq, V.int.injEq, V.bl.injEq, V.ref.injEq, V.ty.injEq, and_true, true_and, List.set_cons_zero, List.set_cons_succ, exists_const, exists_false, reduceCtorEq, ↓reduceIte, exists_eq, exists_eq', and_self, cxK, wipe, List.map_cons, List.map_nil, List.length_cons, List.length_nil, Nat.zero_add, Nat.reduceAdd, Int.cast_ofNat_Int, Int.reduceEq, Int.reduceLE, Int.reduceLT, decide_eq_true_eq, decide_true, decide_false, Bool.true_eq_false, Bool.false_eq_true, Bool.not_true, Bool.not_false]
  rcases hq with ⟨⟨rfl, h⟩, hq⟩ | ⟨a, b, xs, ys, rfl, rfl, h2, hl, hz, hR, hq⟩
  · rcases h with ⟨z, rfl⟩ | ⟨i, rfl⟩
    · rw [if_neg (by simp)]
      refine isi (.base (.str z)) (by decide +kernel) ⟨false, rfl, ?_⟩
      rw [if_neg (by decide)]
      refine isi (.base (.str z)) (by decide +kernel) ⟨false, rfl, ?_⟩
      rw [if_neg (by decide)]
      refine isi (.base (.str z)) (by decide +kernel) ⟨true, rfl, ?_⟩
      rw [if_pos rfl]
      refine isi (.base (.str z)) (by decide +kernel) ⟨true, rfl, ?_⟩
      rw [if_pos rfl, decide_eq_true rfl]
      exact ⟨rfl, hq⟩
    · rw [if_neg (by simp)]
      refine isi (.base (.int i)) (by decide +kernel) ⟨false, rfl, ?_⟩
      rw [if_neg (by decide)]
      refine isi (.base (.int i)) (by decide +kernel) ⟨true, rfl, ?_⟩
      rw [if_pos rfl]
      refine ⟨i, rfl, true, rfl, ?_⟩
      rw [if_pos rfl, decide_eq_true rfl]
      exact ⟨rfl, hq⟩
  · rw [if_neg (by simp)]
    rcases h2 with ⟨ha, hb⟩ | ⟨ha, hb⟩
    · refine isi (.base (.lst hb)) (by decide +kernel) ⟨false, rfl, ?_⟩
      rw [if_neg (by decide)]
      refine isi (.base (.lst hb)) (by decide +kernel) ⟨false, rfl, ?_⟩
      rw [if_neg (by decide)]
      refine isi (.base (.lst hb)) (by decide +kernel) ⟨false, rfl, ?_⟩
      rw [if_neg (by decide)]
      refine isi (b := true) (.base (.lst hb)) (by decide +kernel) (isi (b := true) (.base (.lst ha)) (by decide +kernel) ⟨rfl, ?_⟩)
      rw [if_neg (by simp)]
      refine isi (b := false) (.base (.lst hb)) (by decide +kernel) (isi (b := false) (.base (.lst ha)) (by decide +kernel) ⟨rfl, ?_⟩)
      rw [if_neg (by simp)]
      refine ⟨_, .inl ⟨_, .of ha, rfl⟩, _, .inl ⟨_, .of hb, rfl⟩, rfl, ?_⟩
      rw [if_neg (by rw [hl]; simp)]
      refine ⟨_, rfl, _, rfl, _, _, _, _, rfl, .inl ⟨.of ha, .of hb, ?_⟩⟩
      refine fun D hD => lc_it (walk_zip (n := xs.length) (xs := xs) (ys := ys) (by omega)) (Pv := fun i H' => Same H H' ∧ H' D = some (.lst (List.replicate i (.bl true)))) ⟨same_upd hD, upd_same⟩ (fun i H' _ e => ⟨.of (e.1 _ _ ha), .of (e.1 _ _ hb)⟩) (fun i y H3 H4 hi e hy => ?_) (fun H3 e => ?_)
      · obtain ⟨e1, e2⟩ := e
        obtain ⟨t, u, v, rfl, ht, rfl, hu, hv⟩ := hy
        simp only [rd, rd2, rd3, rd4, rd5, List.getElem?_cons_zero, List.getElem?_cons_succ, Option.some.injEq, exists_eq_left', exists_eq_left, exists_and_left, exists_and_right, List.cons.injEq, V.str.injEq, V.int.injEq, V.bl.injEq, V.ref.injEq, V.ty.injEq, and_true, true_and, List.set_cons_zero, List.set_cons_succ, exists_const, exists_false, reduceCtorEq, ↓reduceIte, exists_eq, exists_eq', and_self, cxK, wipe, List.map_cons, List.map_nil, List.length_cons, List.length_nil, Nat.zero_add, Nat.reduceAdd, Int.cast_ofNat_Int, Int.reduceEq, Int.reduceLE, Int.reduceLT, decide_eq_true_eq, decide_true, decide_false, Bool.true_eq_false, Bool.false_eq_true, Bool.not_true, Bool.not_false]
        have s1 := e1.trans (same_upd (o := .tup [u, v]) ht)
        refine ⟨_, .of upd_same, rfl, ?_⟩
        simp only [rd, rd2, rd3, rd4, rd5, List.getElem?_cons_zero, List.getElem?_cons_succ, Option.some.injEq, exists_eq_left', exists_eq_left, exists_and_left, exists_and_right, List.cons.injEq, V.str.injEq, V.int.injEq, V.bl.injEq, V.ref.injEq, V.ty.injEq, and_true, true_and, List.set_cons_zero, List.set_cons_succ, exists_const, exists_false, reduceCtorEq, ↓reduceIte, exists_eq, exists_eq', and_self, cxK, wipe, List.map_cons, List.map_nil, List.length_cons, List.length_nil, Nat.zero_add, Nat.reduceAdd, Int.cast_ofNat_Int, Int.reduceEq, Int.reduceLE, Int.reduceLT, decide_eq_true_eq, decide_true, decide_false, Bool.true_eq_false, Bool.false_eq_true, Bool.not_true, Bool.not_false]
        refine ⟨u, _, ⟨rfl, rfl⟩, v, _, rfl, rfl, ?_⟩
        simp only [tYes, ↓reduceIte]
        refine hR i u v _ _ hu hv s1 fun H5 s2 => ⟨_, s2 _ _ (same_upd ht _ _ e2), by rw [List.length_replicate, sizeLine_eq]; omega, fun q o e => by rw [upd_ne (ne_of_none e hD)]; exact s2 _ _ (s1 _ _ e), by rw [upd_same, List.replicate_succ']⟩
      · obtain ⟨e1, e2⟩ := e
        refine ⟨D, List.replicate xs.length true, rfl, .of (by rw [e2, List.map_replicate]), ?_⟩
        rw [List.all_replicate]
        have := hq _ e1
        cases xs.length with
        | zero => exact this
        | succ n => exact this
    · refine isi (tyT hb) (by decide +kernel) ⟨false, rfl, ?_⟩
      rw [if_neg (by decide)]
      refine isi (tyT hb) (by decide +kernel) ⟨false, rfl, ?_⟩
      rw [if_neg (by decide)]
      refine isi (tyT hb) (by decide +kernel) ⟨false, rfl, ?_⟩
      rw [if_neg (by decide)]
      refine isi (b := false) (tyT hb) (by decide +kernel) (isi (b := false) (tyT ha) (by decide +kernel) ⟨rfl, ?_⟩)
      rw [if_neg (by simp)]
      refine isi (b := true) (tyT hb) (by decide +kernel) (isi (b := true) (tyT ha) (by decide +kernel) ⟨rfl, ?_⟩)
      rw [if_neg (by simp)]
      refine ⟨_, .inr ⟨_, ha, rfl⟩, _, .inr ⟨_, hb, rfl⟩, rfl, ?_⟩
      rw [if_neg (by rw [hl]; simp)]
      refine ⟨_, rfl, _, rfl, _, _, _, _, rfl, .inr ⟨ha, hb, ?_⟩⟩
      refine fun D hD => lc_it (walk_zipT (n := xs.length) (xs := xs) (ys := ys) (by omega)) (Pv := fun i H' => Same H H' ∧ H' D = some (.lst (List.replicate i (.bl true)))) ⟨same_upd hD, upd_same⟩ (fun i H' _ e => ⟨same_tup e.1 ha, same_tup e.1 hb⟩) (fun i y H3 H4 hi e hy => ?_) (fun H3 e => ?_)
      · obtain ⟨e1, e2⟩ := e
        obtain ⟨t, u, v, rfl, ht, rfl, hu, hv⟩ := hy
        simp only [rd, rd2, rd3, rd4, rd5, List.getElem?_cons_zero, List.getElem?_cons_succ, Option.some.injEq, exists_eq_left', exists_eq_left, exists_and_left, exists_and_right, List.cons.injEq, V.str.injEq, V.int.injEq, V.bl.injEq, V.ref.injEq, V.ty.injEq, and_true, true_and, List.set_cons_zero, List.set_cons_succ, exists_const, exists_false, reduceCtorEq, ↓reduceIte, exists_eq, exists_eq', and_self, cxK, wipe, List.map_cons, List.map_nil, List.length_cons, List.length_nil, Nat.zero_add, Nat.reduceAdd, Int.cast_ofNat_Int, Int.reduceEq, Int.reduceLE, Int.reduceLT, decide_eq_true_eq, decide_true, decide_false, Bool.true_eq_false, Bool.false_eq_true, Bool.not_true, Bool.not_false]
        have s1 := e1.trans (same_upd (o := .tup [u, v]) ht)
        refine ⟨_, .of upd_same, rfl, ?_⟩
        simp only [rd, rd2, rd3, rd4, rd5, List.getElem?_cons_zero, List.getElem?_cons_succ, Option.some.injEq, exists_eq_left', exists_eq_left, exists_and_left, exists_and_right, List.cons.injEq, V.str.injEq, V.int.injEq, V.bl.injEq, V.ref.injEq, V.ty.injEq, and_true, true_and, List.set_cons_zero, List.set_cons_succ, exists_const, exists_false, reduceCtorEq, ↓reduceIte, exists_eq, exists_eq', and_self, cxK, wipe, List.map_cons, List.map_nil, List.length_cons, List.length_nil, Nat.zero_add, Nat.reduceAdd, Int.cast_ofNat_Int, Int.reduceEq, Int.reduceLE, Int.reduceLT, decide_eq_true_eq, decide_true, decide_false, Bool.true_eq_false, Bool.false_eq_true, Bool.not_true, Bool.not_false]
        refine ⟨u, _, ⟨rfl, rfl⟩, v, _, rfl, rfl, ?_⟩
        simp only [tYes, ↓reduceIte]
        refine hR i u v _ _ hu hv s1 fun H5 s2 => ⟨_, s2 _ _ (same_upd ht _ _ e2), by rw [List.length_replicate, sizeLine_eq]; omega, fun q o e => by rw [upd_ne (ne_of_none e hD)]; exact s2 _ _ (s1 _ _ e), by rw [upd_same, List.replicate_succ']⟩
      · obtain ⟨e1, e2⟩ := e
        refine ⟨D, List.replicate xs.length true, rfl, .of (by rw [e2, List.map_replicate]), ?_⟩
        rw [List.all_replicate]
        have := hq _ e1
        cases xs.length with
        | zero => exact this
        | succ n => exact this
/-- data of depth n, alike -/
def EqD (K : PySem.W.Frag) : Nat → Hp → V → V → Prop
  | 0, _, x, y => LfE x y
  | n + 1, H, x, y => LfE x y ∨ ∃ a b xs ys, x = .ref a ∧ y = .ref b ∧ Two K H a b xs ys ∧ xs.length = ys.length ∧ xs.length ≤ 1000 ∧ ∀ (i : Nat) u v, xs[i]? = some u → ys[i]? = some v → EqD K n H u v
theorem EqD.same {K : PySem.W.Frag} : ∀ {n : Nat} {H H' : Hp} {x y : V}, Same H H' → EqD K n H x y → EqD K n H' x y
  | 0, _, _, _, _, _, h => h
  | n + 1, H, H', x, y, s, h => by
    rcases h with h | ⟨a, b, xs, ys, e1, e2, h2, h3, h4, h5⟩
    · exact .inl h
    · refine .inr ⟨a, b, xs, ys, e1, e2, ?_, h3, h4, fun i u v hu hv => (h5 i u v hu hv).same s⟩
      rcases h2 with ⟨ha, hb⟩ | ⟨ha, hb⟩
      · exact .inl ⟨s _ _ ha, s _ _ hb⟩
      · exact .inr ⟨same_tup s ha, same_tup s hb⟩
def sp_same (K : PySem.W.Frag) (n : Nat) : Sp := fun vs H Q E => ∃ x y, vs = [x, y] ∧ EqD K n H x y ∧ ∀ H', Same H H' → Q (.bl true) H'
section
variable {P : Program} {w : World} {K : PySem.W.Frag} {mg : Str → Option Value} {base : Heap}
theorem r_same (T : Tx w K mg) : ∀ n, FnR P w K mg base (L2.CX P w) (n + 2) (He.ga K "_law_same") (sp_same K n)
  | 0 => (r_sameG (k := 1) (R := fun _ _ _ _ => False) T (Nat.le_refl _) (fun _ _ _ _ _ _ _ _ _ _ _ h => h.elim)).imp fun vs H Q E h => by
    obtain ⟨x, y, rfl, h, hq⟩ := h
    exact ⟨x, y, rfl, .inl ⟨h, hq _ (Same.refl _)⟩⟩
  | n + 1 => (r_sameG (k := n + 2) T (by omega) (r_same T n)).imp fun vs H Q E h => by
    obtain ⟨x, y, rfl, h, hq⟩ := h
    rcases h with h | ⟨a, b, xs, ys, e1, e2, h2, h3, h4, h5⟩
    · exact ⟨x, y, rfl, .inl ⟨h, hq _ (Same.refl _)⟩⟩
    · exact ⟨x, y, rfl, .inr ⟨a, b, xs, ys, e1, e2, h2, h3, h4, fun i u v H' Z hu hv s hz => ⟨u, v, rfl, (h5 i u v hu hv).same s, hz⟩, hq⟩⟩
end
end Sf

/-! ### _law_refused -/
namespace Sf
open PySem PySem.Spec PyProof.Rows L2
abbrev sc_refN : List Str := ["_law_ask", "_law_told", "e"]
theorem sc_ref : FnScope sc_refN ["_law_ask"] (defScope (topS 130)) := ⟨rfl, rfl, rfl, by decide +kernel, rfl, by decide +kernel, by decide +kernel⟩
def TTref (K : PySem.W.Frag) : (XK → Hp → VK → Prop) → Hp → VK → Prop := fun tl H Q => ∀ p, H p = none →
  tl (fun cls d H' => cls = .ref (He.ga K "CapacityExceeded") ∧ ∃ dd, d = some dd ∧ H' dd = some (.xd capF) ∧ ∀ t, H' t = none → Q (.ref t) (upd H' t (.tup [.str "CapacityExceeded", .int 12]))) (upd H p (.tup [.str "", .non])) fun _ H' => Q (.ref p) H'
theorem takes_len {X : Cx} {W : WX} (h : Takes X W) : Takes X (fun c d σ H => σ.length = X.N.length → W c d σ H) := fun e s x => by
  obtain ⟨a, B, sI, pins2, σ2, H2, c, d, h1, J0, nb, up, sky, na, os, ag, w⟩ := x
  exact h e s ⟨a, B, sI, pins2, σ2, H2, c, d, h1, J0, nb, up, sky, na, os, ag, w J0.len⟩
theorem len3 {σ : L2.St} (h : σ.length = 3) : ∃ a b c, σ = [a, b, c] := by
  match σ, h with
  | [a, b, c], _ => exact ⟨a, b, c, rfl⟩
theorem ref_gives {X : Cx} (T : Tx X.w X.K X.mg) {cdg : Value} {q : Str} : LamX.GivesTo X sc_refN "_law_refused" (defScope (topS 130)) (He.ga X.K "_law_refused") cdg (defBody (topS 130)) "_law_ask" q (TTref X.K) := by
  intro f c' s H Q tl act hc h
  refine ⟨_, pss_cons (ps_set (i := 1) sc_ref.nd rfl (Or.inl rfl) (pe_tup (pa_cons pe_str (pa_cons pe_non pa_nil)))) (pss_cons (ps_tryG (i := 2)
      (tb := fun W D σ H => ∃ Ech : XK, (∀ cls d σ' H', Ech cls d H' → σ'.length = 3 → W cls d σ' H') ∧ σ[0]? = some (some (.ref f)) ∧ H c' = some (LamX.CodeO c' q) ∧ tl Ech H fun _ H' => D.nx σ H')
      (ts := fun a _ d => tAsg (tTup (tCons (tXf a (.ref (He.ga X.K "CapacityExceeded")) d (He.ga X.K "CapacityExceeded") "tag" (tVar 2)) (tCons (tXf a (.ref (He.ga X.K "CapacityExceeded")) d (He.ga X.K "CapacityExceeded") "capacity" (tVar 2)) tNil))) (gName 1))
      rfl rfl sc_ref.nd (fun W pn xe tk _ => ?_)
      (HG.miss (xt_tup5 ⟨rfl, by decide, .inl T.g_InvalidName⟩ ⟨rfl, by decide, .inl T.g_DuplicateName⟩ ⟨rfl, by decide, .inl T.g_Circular⟩ ⟨rfl, by decide, .inl T.g_InUse⟩ ⟨rfl, by decide, .inl T.g_UnknownName⟩ T.e_InvalidName T.e_DuplicateName T.e_Circular T.e_InUse T.e_UnknownName)
      (HG.miss (xt_tup3 ⟨rfl, by decide, .inl T.g_TooLong⟩ ⟨rfl, by decide, .inl T.g_TooDeep⟩ ⟨rfl, by decide, .inl T.g_TooMany⟩ T.e_long)
      (HG.miss (xt_tup2 ⟨rfl, by decide, .inl T.g_Tangled⟩ ⟨rfl, by decide, .inl T.g_UnknownWalker⟩ T.e_tangled)
      (HG.miss (xt_name ⟨rfl, by decide, .inl T.g_InvalidPlace⟩ T.e_InvalidPlace)
      (HG.miss (xt_name ⟨rfl, by decide, .inl T.g_InvalidBlock⟩ T.e_InvalidBlock)
      (HG.hit (xt_name ⟨rfl, by decide, .inl T.g_CapacityExceeded⟩ T.e_CapacityExceeded) rfl rfl (fun a oe d pn hz hf =>
        pss_one (ps_set (i := 1) sc_ref.nd rfl (Or.inl rfl) (pe_tup (pa_cons (pe_xt T.x_xf T.x_tag hz hf (pv 2)) (pa_cons (pe_xt T.x_xf T.x_capacity hz hf (pv 2)) pa_nil))))))))))))
      (pss_one (ps_ret (pv 1)))), ?_⟩
  · refine ⟨fun pins s' σ H' D I h' => ?_⟩
    obtain ⟨Ech, hW, h1, h2, h3⟩ := h'
    exact (pss_one (ps_expr (act _ pn xe Ech _ _ (takes_len tk) hW))).run pins s' σ H' D I ⟨h1, h2, h3⟩
  · refine start_of (σ := [some (.ref f), none, none]) rfl ?_
    simp only [rd, rd2, rd3, rd4, rd5, List.getElem?_cons_zero, List.getElem?_cons_succ, Option.some.injEq, exists_eq_left', exists_eq_left, exists_and_left, exists_and_right, List.cons.injEq, V.str.injEq, V.int.injEq, V.bl.injEq, V.ref.injEq, V.ty.injEq, and_true, true_and, List.set_cons_zero, List.set_cons_succ, exists_const, exists_false, reduceCtorEq, ↓reduceIte, exists_eq, exists_eq', and_self, cxK, wipe, List.map_cons, List.map_nil, List.length_cons, List.length_nil, Nat.zero_add, Nat.reduceAdd, Int.cast_ofNat_Int, Int.reduceEq, Int.reduceLE, Int.reduceLT, decide_eq_true_eq, decide_true, decide_false, Bool.true_eq_false, Bool.false_eq_true, Bool.not_true, Bool.not_false]
    refine ⟨by rw [sizeLine_eq]; decide, fun p hp => ⟨_, fun cls d σ' H' e hσ => ?_, same_upd hp _ _ hc, h p hp⟩⟩
    obtain ⟨rfl, dd, rfl, hdd, hq⟩ := e
    obtain ⟨x, y, z, rfl⟩ := len3 hσ
    refine ⟨rfl, fun a ha => ?_⟩
    simp only [rd, rd2, rd3, rd4, rd5, List.getElem?_cons_zero, List.getElem?_cons_succ, Option.some.injEq, exists_eq_left', exists_eq_left, exists_and_left, exists_and_right, List.cons.injEq, V.str.injEq, V.int.injEq, V.bl.injEq, V.ref.injEq, V.ty.injEq, and_true, true_and, List.set_cons_zero, List.set_cons_succ, exists_const, exists_false, reduceCtorEq, ↓reduceIte, exists_eq, exists_eq', and_self, cxK, wipe, List.map_cons, List.map_nil, List.length_cons, List.length_nil, Nat.zero_add, Nat.reduceAdd, Int.cast_ofNat_Int, Int.reduceEq, Int.reduceLE, Int.reduceLT, decide_eq_true_eq, decide_true, decide_false, Bool.true_eq_false, Bool.false_eq_true, Bool.not_true, Bool.not_false]
    refine ⟨_, rfl, rfl, rfl, dd, capF, .str "CapacityExceeded", rfl, hdd, rfl, ⟨_, rfl, rfl, rfl, dd, capF, .int 12, rfl, hdd, rfl, ?_⟩⟩
    exact ⟨by rw [sizeLine_eq]; decide, hq⟩
/-! Desk(book = b) -/
def sp_desk (K : PySem.W.Frag) : Sp := fun vs H Q E => ∃ k dx b, vs = [.ref k, .ref b, .int 2] ∧ H k = some (.ins (He.ga K "Desk") dx []) ∧ Q .non (upd H k (.ins (He.ga K "Desk") dx [("shelf", .ref b)]))
theorem sc_desk : FnScope ["self", "book", "dimension"] ["self", "book", "dimension"] (defScope (clsS 124 0)) := ⟨rfl, rfl, rfl, by decide +kernel, rfl, by decide +kernel, by decide +kernel⟩
theorem ok_desk {P : Program} {w : World} {K : PySem.W.Frag} {mg : Str → Option Value} {base : Heap} (T : Tx w K mg) :
    ∃ fd, FnOk P w K mg base (L2.CX P w) 1 (He.ma K (He.ga K "Desk") "__init__") fd ["self", "book", "dimension"] (sp_desk K) ∧ ∃ mv : List Value, KBn K fd ["self", "book", "dimension"] 1 ["book"] (fun us ws => us ++ (ws ++ mv)) (fun vs zs => vs ++ (zs ++ [.int 2])) := by
  obtain ⟨fd, F, G⟩ := mkOk (P := P) (w := w) (mg := mg) (base := base) (sp := sp_desk K) T.f_Desk__init_ sc_desk (fun vs H Q E h => by obtain ⟨k, dx, b, rfl, h⟩ := h; rfl) (fun cdv A outer s H vs Q E hr h => by
    obtain ⟨k, dx, b, rfl, hk, hq⟩ := h
    refine ⟨_, pss_one (ps_fd T.c_Desk T.a_Desk_shelf (pv 0) (pe_ifExp (pt_cmpR op_isN (pv 1) pe_non (nomark _)) pe_never (pv 1))), ?_⟩
    refine start_of (σ := [some (.ref k), some (.ref b), some (.int 2)]) rfl ?_
    simp only [rd, rd2, rd3, rd4, rd5, List.getElem?_cons_zero, List.getElem?_cons_succ, Option.some.injEq, exists_eq_left', exists_eq_left, exists_and_left, exists_and_right, List.cons.injEq, V.str.injEq, V.int.injEq, V.bl.injEq, V.ref.injEq, V.ty.injEq, and_true, true_and, List.set_cons_zero, List.set_cons_succ, exists_const, exists_false, reduceCtorEq, ↓reduceIte, exists_eq, exists_eq', and_self, cxK, wipe, List.map_cons, List.map_nil, List.length_cons, List.length_nil, Nat.zero_add, Nat.reduceAdd, Int.cast_ofNat_Int, Int.reduceEq, Int.reduceLE, Int.reduceLT, decide_eq_true_eq, decide_true, decide_false, Bool.true_eq_false, Bool.false_eq_true, Bool.not_true, Bool.not_false]
    exact ⟨_, _, hk, by decide, hq⟩)
  refine ⟨fd, G, F.kbinds0 1 ["book"] [("dimension", .int 2)] (fun us mz zs => us ++ (zs ++ mz)) (by simp) (by simp) (fun r1 r2 r3 => r1.append (r3.append r2)) fun D doc pm an cdv ct us mv ws h1 h2 h3 => ?_⟩
  match us, h1, mv, h2, ws, h3 with
  | [u1], _, [u2], _, [u3], _ => exact ⟨_, _, _, _, _, _, rfl, rfl, rfl⟩
end Sf

/-! ### law, statement by statement -/
namespace Sf
open PySem PySem.Spec PyProof.Rows L2
def Stp (X : Cx) (s : Stmt) (A B : L2.St → Hp → Prop) : Prop := ∃ t, PS X s t ∧ ∀ D σ H, A σ H → (∀ σ' H', B σ' H' → D.nx σ' H') → t D σ H
def SStp (X : Cx) (ss : List Stmt) (A : L2.St → Hp → Prop) : Prop := ∃ t, PSs X ss t ∧ ∀ D σ H, A σ H → (∀ H', D.rt (.bl true) H') → t D σ H
theorem scons {X : Cx} {s : Stmt} {ss : List Stmt} {A B : L2.St → Hp → Prop} (h1 : Stp X s A B) (h2 : SStp X ss B) : SStp X (s :: ss) A := by
  obtain ⟨t, p, f⟩ := h1
  obtain ⟨u, q, g⟩ := h2
  exact ⟨_, pss_cons p q, fun D σ H a r => f _ σ H a fun σ' H' b => g D σ' H' b r⟩
abbrev sc_lawN : List Str := ["_law_script", "_law_box", "_law_ways", "_law_first", "_law_letters", "_law_one", "_law_other", "_law_full", "_law_names", "_law_batches", "_law_batch", "_law_desk", "_law_told", "_law_due", "_law_rest", "_law_k", "_law_sign", "_law_line"]
theorem sc_law : FnScope sc_lawN ["_law_script"] (defScope (topS 131)) := ⟨rfl, rfl, rfl, by decide +kernel, rfl, by decide +kernel, by decide +kernel⟩
abbrev LX (P : Program) (w : World) (K : PySem.W.Frag) (mg : Str → Option Value) (base : Heap) (c : Addr) (A : Around) (outer : List Env) (s : Shared) (H : Hp) (E : XK) : Cx := cxOf (L2.CX P w) P w K mg base sc_lawN "law" (defScope (topS 131)) (He.ga K "law") (.ref c) A outer s H E
/-- the box -/
def Bx (K : PySem.W.Frag) (H : Hp) (b : Addr) (ns : List Int) (n : Int) : Prop := ∃ c i d k, H b = some (.lst [.ref c, .int i, .int d, .int k]) ∧ SqL K H c (ns.map V.int) ∧ b ≠ c ∧ 0 ≤ i ∧ i ≤ n
theorem Bx.same {K : PySem.W.Frag} {H H' : Hp} {b : Addr} {ns : List Int} {n : Int} (s : Same H H') (h : Bx K H b ns n) : Bx K H' b ns n := by
  obtain ⟨c, i, d, k, h1, h2, h3⟩ := h
  exact ⟨c, i, d, k, s _ _ h1, s.seq h2, h3⟩
/-- the slots: those that are set, then none -/
def Sl (xs : List V) : L2.St := xs.map some ++ List.replicate (18 - xs.length) none
section
variable {P : Program} {w : World} {K : PySem.W.Frag} {mg : Str → Option Value} {base : Heap} {c : Addr} {A : Around} {outer : List Env} {s0 : Shared} {H0 : Hp} {E : XK} {Pt : Addr} {ns : List Int}
def A0 (K : PySem.W.Frag) (Pt : Addr) (ns : List Int) : L2.St → Hp → Prop := fun σ H => ∃ l, σ = [some (.ref l), none, none, none, none, none, none, none, none, none, none, none, none, none, none, none, none, none] ∧ SqL K H l (ns.map V.int) ∧ H Pt = some (.tbl #[])
def A1 (K : PySem.W.Frag) (Pt : Addr) (ns : List Int) : L2.St → Hp → Prop := fun σ H => ∃ l b, σ = [some l, some (.ref b), none, none, none, none, none, none, none, none, none, none, none, none, none, none, none, none] ∧ Bx K H b ns 0 ∧ H Pt = some (.tbl #[])
theorem st1 (T : Tx w K mg) (hn : ns.length ≤ 63) (hr : Room 40 (A.deeper (envOfC "law" (defScope (topS 131)) s0.heap.objs.size (He.ga K "law") (.ref c)))) :
    Stp (LX P w K mg base c A outer s0 H0 E) ((defBody (topS 131)).getD 0 (.Pass default)) (A0 K Pt ns) (A1 K Pt ns) := by
  refine ⟨_, (ps_set (i := 1) sc_law.nd rfl (Or.inl rfl) (pe_f (r__law_a_box (P := P) (w := w) (K := K) (base := base) T) T.g__law_a_box T.f__law_a_box.keep hr passL (pa_cons (pv 0) pa_nil))), fun D σ H a nx => ?_⟩
  obtain ⟨l, rfl, hl, hP⟩ := a
  simp only [rd, rd2, rd3, rd4, rd5, List.getElem?_cons_zero, List.getElem?_cons_succ, Option.some.injEq, exists_eq_left', exists_eq_left, exists_and_left, exists_and_right, List.cons.injEq, V.str.injEq, V.int.injEq, V.bl.injEq, V.ref.injEq, V.ty.injEq, and_true, true_and, List.set_cons_zero, List.set_cons_succ, exists_const, exists_false, reduceCtorEq, ↓reduceIte, exists_eq, exists_eq', and_self, cxK, wipe, List.map_cons, List.map_nil, List.length_cons, List.length_nil, Nat.zero_add, Nat.reduceAdd, Int.cast_ofNat_Int, Int.reduceEq, Int.reduceLE, Int.reduceLT, decide_eq_true_eq, decide_true, decide_false, Bool.true_eq_false, Bool.false_eq_true, Bool.not_true, Bool.not_false]
  exact ⟨l, ns, rfl, hl, hn, fun H' b c m s hb h1 h2 h3 => nx _ _ ⟨_, b, rfl, ⟨c, 0, 0, m, h1, h2, h3, by omega, by omega⟩, s _ _ hP⟩⟩
def n14 : L2.St := [none, none, none, none, none, none, none, none, none, none, none, none, none, none]
def A2 (K : PySem.W.Frag) (Pt : Addr) (ns : List Int) (d : Int) (f : Nat) : L2.St → Hp → Prop := fun σ H => ∃ l b, σ = [some l, some (.ref b), some (.int d), some (.int f), none, none, none, none, none, none, none, none, none, none, none, none, none, none] ∧ Bx K H b ns 2 ∧ H Pt = some (.tbl #[]) ∧ 1 ≤ d ∧ d ≤ 3 ∧ f < 14
theorem st2 (T : Tx w K mg) (hn : ns.length ≤ 63) (hr : Room 40 (A.deeper (envOfC "law" (defScope (topS 131)) s0.heap.objs.size (He.ga K "law") (.ref c)))) :
    Stp (LX P w K mg base c A outer s0 H0 E) ((defBody (topS 131)).getD 1 (.Pass default)) (A1 K Pt ns) (fun σ H => ∃ d f, A2 K Pt ns d f σ H) := by
  refine ⟨_, (ps_asg (pe_tup (pa_cons (pe_op op_add (pe_int) (pe_f (r__law_draw (P := P) (w := w) (K := K) (base := base) T) T.g__law_draw T.f__law_draw.keep hr passL (pa_cons (pv 1) (pa_cons (pe_int) pa_nil)))) (pa_cons (pe_f (r__law_draw (P := P) (w := w) (K := K) (base := base) T) T.g__law_draw T.f__law_draw.keep hr passL (pa_cons (pv 1) (pa_cons (pe_int) pa_nil))) pa_nil))) (kpg (K := K) (n := 2) (pg_tup rfl (pgs_cons (pg_name (i := 2) sc_law.nd rfl (Or.inl rfl)) (pgs_cons (pg_name (i := 3) sc_law.nd rfl (Or.inr rfl)) pgs_nil))))), fun D σ H a nx => ?_⟩
  obtain ⟨l, b, rfl, ⟨c, i, d, k, hb, hc, nb, i0, i1⟩, hP⟩ := a
  simp only [rd, rd2, rd3, rd4, rd5, List.getElem?_cons_zero, List.getElem?_cons_succ, Option.some.injEq, exists_eq_left', exists_eq_left, exists_and_left, exists_and_right, List.cons.injEq, V.str.injEq, V.int.injEq, V.bl.injEq, V.ref.injEq, V.ty.injEq, and_true, true_and, List.set_cons_zero, List.set_cons_succ, exists_const, exists_false, reduceCtorEq, ↓reduceIte, exists_eq, exists_eq', and_self, cxK, wipe, List.map_cons, List.map_nil, List.length_cons, List.length_nil, Nat.zero_add, Nat.reduceAdd, Int.cast_ofNat_Int, Int.reduceEq, Int.reduceLE, Int.reduceLT, decide_eq_true_eq, decide_true, decide_false, Bool.true_eq_false, Bool.false_eq_true, Bool.not_true, Bool.not_false]
  refine ⟨b, c, i, d, k, 3, ns, rfl, hb, hc, nb, hn, i0, by omega, by omega, by omega, fun H1 r1 i' d' x1 hb1 hc1 j0 j1 r0 r1' => ⟨r1, rfl, ?_⟩⟩
  refine ⟨b, c, i', d', k, 14, ns, rfl, hb1, hc1, nb, hn, j0, by omega, by omega, by omega, fun H2 r2 i2 d2 x2 hb2 hc2 k0 k1 q0 q1 => ⟨by rw [sizeLine_eq]; decide, fun p hp => ?_⟩⟩
  obtain ⟨f, rfl⟩ := Int.eq_ofNat_of_zero_le q0
  have np := ne_of hP hb (by intro z; cases z)
  exact ⟨_, .of upd_same, rfl, _, _, rfl, _, _, rfl, rfl, nx _ _ ⟨1 + r1, f, l, b, rfl, ⟨c, i2, d2, k, same_upd hp _ _ hb2, (same_upd hp).seq hc2, nb, by omega, by omega⟩, same_upd hp _ _ (x2 _ _ (x1 _ _ hP np) np), by omega, by omega, by omega⟩⟩
theorem at_nat {zs : List Nat} {j : Nat} (h : j < zs.length) : atI zs ((j : Nat) : Int) = some (zs.getD j 0) := by
  have e : ixN zs.length ((j : Nat) : Int) = some j := by
    unfold ixN
    rw [if_pos (by omega), if_pos (by omega), Int.toNat_natCast]
  unfold atI
  rw [e, Option.bind_some, List.getElem?_eq_getElem h, List.getD_eq_getElem?_getD, List.getElem?_eq_getElem h] <;> rfl
/-- the letters -/
def abc2 : Str := ⟨("abcdefghijklmn" : Str).cps ++ ("abcdefghijklmn" : Str).cps⟩
def lets (f : Nat) : List Str := (List.range 12).map fun k => ⟨#[abc2.cps.toList.getD (f + k) 0]⟩
def Pm (d : Int) (f : Nat) : Prop := 1 ≤ d ∧ d ≤ 3 ∧ f < 14
def A3 (K : PySem.W.Frag) (Pt : Addr) (ns : List Int) (d : Int) (f : Nat) (L : Addr) : L2.St → Hp → Prop := fun σ H => ∃ l b, σ = [some l, some (.ref b), some (.int d), some (.int f), some (.ref L), none, none, none, none, none, none, none, none, none, none, none, none, none] ∧ Bx K H b ns 2 ∧ H Pt = some (.tbl #[]) ∧ H L = some (.lst ((lets f).map V.str))
theorem st3 (T : Tx w K mg) (hr : Room 40 (A.deeper (envOfC "law" (defScope (topS 131)) s0.heap.objs.size (He.ga K "law") (.ref c)))) :
    Stp (LX P w K mg base c A outer s0 H0 E) ((defBody (topS 131)).getD 2 (.Pass default)) (fun σ H => ∃ d f, A2 K Pt ns d f σ H) (fun σ H => ∃ d f L, Pm d f ∧ A3 K Pt ns d f L σ H) := by
  refine ⟨_, (ps_setLc (i := 4) (own := [("_law_k", 15)]) (g := gName 15) (tt := tYes) rfl sc_law.nd rfl rfl (sw_true rfl rfl rfl (by decide +kernel)) (pi_range1 rfl T.n_range (pa_cons (pe_int) pa_nil)) (blkOk_by (N := sc_lawN) (sc := (defScope (topS 131))) (by decide +kernel)) (fun _ _ _ _ _ => (pg_name (i := 15) sc_law.nd rfl (Or.inl rfl))) (fun _ _ _ _ _ => pts_nil) (fun _ _ _ _ _ => (pe_ix ix_str (pe_op op_mulS (pe_str) (pe_int)) (pe_op op_add (pv 3) (pv 15)) (fun _ _ => rfl)))), fun D σ H a nx => ?_⟩
  obtain ⟨d, f, l, b, rfl, hB, hP, d1, d3, hf⟩ := a
  simp only [rd, rd2, rd3, rd4, rd5, List.getElem?_cons_zero, List.getElem?_cons_succ, Option.some.injEq, exists_eq_left', exists_eq_left, exists_and_left, exists_and_right, List.cons.injEq, V.str.injEq, V.int.injEq, V.bl.injEq, V.ref.injEq, V.ty.injEq, and_true, true_and, List.set_cons_zero, List.set_cons_succ, exists_const, exists_false, reduceCtorEq, ↓reduceIte, exists_eq, exists_eq', and_self, cxK, wipe, List.map_cons, List.map_nil, List.length_cons, List.length_nil, Nat.zero_add, Nat.reduceAdd, Int.cast_ofNat_Int, Int.reduceEq, Int.reduceLE, Int.reduceLT, decide_eq_true_eq, decide_true, decide_false, Bool.true_eq_false, Bool.false_eq_true, Bool.not_true, Bool.not_false]
  refine ⟨12, rfl, by decide, by decide, ?_⟩
  refine fun L hL => lc_it (n := 12) walk_range (Pv := fun i H' => Same H H' ∧ H' L = some (.lst (((List.range i).map fun k => (⟨#[abc2.cps.toList.getD (f + k) 0]⟩ : Str)).map V.str))) ⟨same_upd hL, upd_same⟩ (fun _ _ _ _ => trivial) (fun i x H1 H2 hi e y => ?_) fun H1 e => ?_
  · obtain ⟨rfl, rfl⟩ := y
    simp only [rd, rd2, rd3, rd4, rd5, List.getElem?_cons_zero, List.getElem?_cons_succ, Option.some.injEq, exists_eq_left', exists_eq_left, exists_and_left, exists_and_right, List.cons.injEq, V.str.injEq, V.int.injEq, V.bl.injEq, V.ref.injEq, V.ty.injEq, and_true, true_and, List.set_cons_zero, List.set_cons_succ, exists_const, exists_false, reduceCtorEq, ↓reduceIte, exists_eq, exists_eq', and_self, cxK, wipe, List.map_cons, List.map_nil, List.length_cons, List.length_nil, Nat.zero_add, Nat.reduceAdd, Int.cast_ofNat_Int, Int.reduceEq, Int.reduceLE, Int.reduceLT, decide_eq_true_eq, decide_true, decide_false, Bool.true_eq_false, Bool.false_eq_true, Bool.not_true, Bool.not_false]
    simp only [tYes, ↓reduceIte]
    obtain ⟨e1, e2⟩ := e
    refine ⟨_, rfl, rfl, by decide, by decide, abc2, _, abc2.cps.toList.getD (f + i) 0, rfl, rfl, by rw [sizeLine_eq]; decide, ?_, _, e2, ?_, ?_, ?_⟩
    · have ha : abc2.cps.toList.length = 28 := by decide
      have hb : ((f : Int) + (0 + (i : Int))) = ((f + i : Nat) : Int) := by omega
      rw [hb]
      exact at_nat (by omega)
    · rw [List.length_map, List.length_map, List.length_range, sizeLine_eq]; omega
    · exact fun q o u => by rw [upd_ne (ne_of_none u hL)]; exact e1 _ _ u
    · rw [upd_same, List.range_succ, List.map_append, List.map_append] <;> rfl
  · exact nx _ _ ⟨d, f, L, ⟨d1, d3, hf⟩, l, b, rfl, hB.same e.1, e.1 _ _ hP, e.2⟩
def LetsOk (f : Nat) : Bool := decide (lets f).Nodup && decide ((lets f).length = 12) && (lets f).all fun z => Nm z && decide (z.length = 1) && decide (z ≠ "q")
theorem lets_ok : ∀ f, f < 14 → LetsOk f = true := by decide +kernel
theorem lets_apart : ∀ f, f < 14 → ∀ i, i < 6 → ∀ j, j < 6 → (lets f).getD i "" ≠ (lets f).getD (6 + j) "" := by decide +kernel
theorem at_lets {f j : Nat} (hf : f < 14) (hj : j < 12) : atI ((lets f).map V.str) ((j : Nat) : Int) = some (.str ((lets f).getD j "")) ∧ (lets f).getD j "" ∈ lets f := by
  have h0 : (lets f).length = 12 := by unfold lets; rw [List.length_map, List.length_range]
  have hl : j < (lets f).length := by omega
  have e : ixN ((lets f).map V.str).length ((j : Nat) : Int) = some j := by
    unfold ixN
    rw [List.length_map, if_pos (by omega), if_pos (by omega), Int.toNat_natCast]
  refine ⟨?_, ?_⟩
  · unfold atI
    rw [e, Option.bind_some, List.getElem?_map, List.getElem?_eq_getElem hl, List.getD_eq_getElem?_getD, List.getElem?_eq_getElem hl] <;> rfl
  · rw [List.getD_eq_getElem?_getD, List.getElem?_eq_getElem hl]
    exact List.getElem_mem hl
def A4 (K : PySem.W.Frag) (Pt : Addr) (d : Int) (f : Nat) (L : Addr) (z1 z2 : Str) : L2.St → Hp → Prop := fun σ H => ∃ l b, σ = [some l, some b, some (.int d), some (.int f), some (.ref L), some (.str z1), some (.str z2), none, none, none, none, none, none, none, none, none, none, none] ∧ H Pt = some (.tbl #[]) ∧ H L = some (.lst ((lets f).map V.str)) ∧ z1 ∈ lets f ∧ z2 ∈ lets f ∧ z1 ≠ z2
theorem st4 (T : Tx w K mg) (hn : ns.length ≤ 63) (hr : Room 40 (A.deeper (envOfC "law" (defScope (topS 131)) s0.heap.objs.size (He.ga K "law") (.ref c)))) :
    Stp (LX P w K mg base c A outer s0 H0 E) ((defBody (topS 131)).getD 3 (.Pass default)) (fun σ H => ∃ d f L, Pm d f ∧ A3 K Pt ns d f L σ H) (fun σ H => ∃ d f L z1 z2, Pm d f ∧ A4 K Pt d f L z1 z2 σ H) := by
  refine ⟨_, (ps_asg (pe_tup (pa_cons (pe_ix (r := rIxL K) ix_list (pv 4) (pe_f (r__law_draw (P := P) (w := w) (K := K) (base := base) T) T.g__law_draw T.f__law_draw.keep hr passL (pa_cons (pv 1) (pa_cons (pe_int) pa_nil))) (fun _ _ => rfl)) (pa_cons (pe_ix (r := rIxL K) ix_list (pv 4) (pe_op op_add (pe_int) (pe_f (r__law_draw (P := P) (w := w) (K := K) (base := base) T) T.g__law_draw T.f__law_draw.keep hr passL (pa_cons (pv 1) (pa_cons (pe_int) pa_nil)))) (fun _ _ => rfl)) pa_nil))) (kpg (K := K) (n := 2) (pg_tup rfl (pgs_cons (pg_name (i := 5) sc_law.nd rfl (Or.inr rfl)) (pgs_cons (pg_name (i := 6) sc_law.nd rfl (Or.inl rfl)) pgs_nil))))), fun D σ H a nx => ?_⟩
  obtain ⟨d, f, L, pm, l, b, rfl, ⟨c, i, d', k, hb, hc, nb, i0, i1⟩, hP, hL⟩ := a
  have hf := pm.2.2
  have h0 : (lets f).length = 12 := by unfold lets; rw [List.length_map, List.length_range]
  have nL : L ≠ b := fun q => by
    subst q
    rw [hb] at hL
    have := congrArg List.length (HO.lst.inj (Option.some.inj hL))
    rw [List.length_map, h0] at this
    cases this
  have np := ne_of hP hb (by intro z; cases z)
  simp only [rd, rd2, rd3, rd4, rd5, List.getElem?_cons_zero, List.getElem?_cons_succ, Option.some.injEq, exists_eq_left', exists_eq_left, exists_and_left, exists_and_right, List.cons.injEq, V.str.injEq, V.int.injEq, V.bl.injEq, V.ref.injEq, V.ty.injEq, and_true, true_and, List.set_cons_zero, List.set_cons_succ, exists_const, exists_false, reduceCtorEq, ↓reduceIte, exists_eq, exists_eq', and_self, cxK, wipe, List.map_cons, List.map_nil, List.length_cons, List.length_nil, Nat.zero_add, Nat.reduceAdd, Int.cast_ofNat_Int, Int.reduceEq, Int.reduceLE, Int.reduceLT, decide_eq_true_eq, decide_true, decide_false, Bool.true_eq_false, Bool.false_eq_true, Bool.not_true, Bool.not_false]
  refine ⟨b, c, i, d', k, 6, ns, rfl, hb, hc, nb, hn, i0, by omega, by omega, by omega, fun H1 r1 i1' d1 x1 hb1 hc1 j0 j1 r0 r1' => ?_⟩
  obtain ⟨r1, rfl⟩ := Int.eq_ofNat_of_zero_le r0
  have a1 := at_lets (f := f) (j := r1) hf (by omega)
  refine ⟨L, _, _, _, rfl, rfl, .of (x1 _ _ hL nL), a1.1, ?_⟩
  refine ⟨b, c, i1', d1, k, 6, ns, rfl, hb1, hc1, nb, hn, j0, by omega, by omega, by omega, fun H2 r2 i2 d2 x2 hb2 hc2 k0 k1 q0 q1 => ?_⟩
  obtain ⟨r2, rfl⟩ := Int.eq_ofNat_of_zero_le q0
  have a2 := at_lets (f := f) (j := 6 + r2) hf (by omega)
  have hL2 := x2 _ _ (x1 _ _ hL nL) nL
  refine ⟨_, rfl, _, .of hL2, _, a2.1, by rw [sizeLine_eq]; decide, fun p hp => ?_⟩
  exact ⟨_, .of upd_same, rfl, _, _, rfl, _, _, rfl, rfl, nx _ _ ⟨d, f, L, _, _, pm, l, .ref b, rfl, same_upd hp _ _ (x2 _ _ (x1 _ _ hP np) np), same_upd hp _ _ hL2, a1.2, a2.2, lets_apart f hf r1 (by omega) r2 (by omega)⟩⟩
/-- the law's known things: d, f, the letters' list, the two letters, the book -/
structure Lw (d : Int) (f : Nat) (z1 z2 : Str) : Prop where
  pm : Pm d f
  m1 : z1 ∈ lets f
  m2 : z2 ∈ lets f
  ne : z1 ≠ z2
theorem BookAt.apart0 {K : PySem.W.Frag} {H : Hp} {bk pl fl L : Addr} {d : Int} {s : KS} {xs : List V} (h : BookAt K H bk pl fl d s [] []) (hL : H L = some (.lst xs)) (hx : xs ≠ []) : L ≠ pl ∧ L ≠ fl := by
  obtain ⟨dx, p, kt, kn, ts, qv, gv, h1, h2, h3, h4, h5, h6, h7, h8, h9, h10⟩ := h
  have e1 := List.length_eq_zero_iff.mp h4.len
  have e2 := List.length_eq_zero_iff.mp h6.len
  subst e1
  subst e2
  refine ⟨fun q => ?_, fun q => ?_⟩
  · rw [q, h3] at hL
    exact hx (HO.lst.inj (Option.some.inj hL)).symm
  · rw [q, h5] at hL
    exact hx (HO.lst.inj (Option.some.inj hL)).symm
theorem rn_dfn : ∀ (ls : List Str) (s : KS), (s.1 ++ ls).Nodup → (∀ z ∈ ls, Nm z = true) → s.1.length + ls.length ≤ 12 → Up s.1 → ∃ s' : KS, Rn (ls.map fun z => Cm.dfn z (some 1)) s (some s') ∧ s'.1.Perm (s.1 ++ ls) ∧ Up s'.1
  | [], s, _, _, _, u => ⟨s, .nil s, by rw [List.append_nil], u⟩
  | z :: ls, s, nd, hn, hl, u => by
    rw [List.length_cons] at hl
    have hz : z ∉ s.1 := fun q => (List.nodup_append.mp nd).2.2 z q z List.mem_cons_self rfl
    have pm : (srt (s.1 ++ [z])).Perm (s.1 ++ [z]) := srt_perm _
    have pl : (srt (s.1 ++ [z]) ++ ls).Perm (s.1 ++ z :: ls) := by
      have := pm.append_right ls
      rwa [List.append_assoc, List.singleton_append] at this
    obtain ⟨s', h1, h2, h3⟩ := rn_dfn ls ((Cm.dfn z (some 1)).nk s.1, (Cm.dfn z (some 1)).nb s.2) (pl.nodup_iff.mpr nd) (fun y hy => hn y (List.mem_cons_of_mem z hy)) (by show (srt (s.1 ++ [z])).length + ls.length ≤ 12; rw [pm.length_eq, List.length_append, List.length_singleton]; omega) (srt_up _)
    exact ⟨s', .step ⟨hn z List.mem_cons_self, hz⟩ (fun q => by have q : s.1.length = 12 := q; omega) h1, h2.trans pl, h3⟩
theorem lets_facts {f : Nat} (hf : f < 14) : (lets f).Nodup ∧ (lets f).length = 12 ∧ ∀ z ∈ lets f, Nm z = true ∧ z.length = 1 ∧ z ≠ "q" := by
  have h := lets_ok f hf
  unfold LetsOk at h
  simp only [Bool.and_eq_true, decide_eq_true_eq, List.all_eq_true] at h
  exact ⟨h.1.1, h.1.2, fun z hz => ⟨(h.2 z hz).1.1, (h.2 z hz).1.2, (h.2 z hz).2⟩⟩
theorem pt_ne {K : PySem.W.Frag} {H : Hp} {bk pl fl p : Addr} {ps : Array Value} {d : Int} {s : KS} {qs gs : List KS} (hP : H p = some (.tbl ps)) (h : BookAt K H bk pl fl d s qs gs) : ¬ (p = bk ∨ p = pl ∨ p = fl) := by
  obtain ⟨dx, q, kt, kn, ts, qv, gv, h1, h2, h3, h4, h5, h6⟩ := h
  rintro (e | e | e)
  · rw [e, h1] at hP; cases hP
  · rw [e, h3] at hP; cases hP
  · rw [e, h5] at hP; cases hP
theorem BookAt.fresh {K : PySem.W.Frag} {H : Hp} {bk pl fl p : Addr} {d : Int} {s : KS} {qs gs : List KS} (h : BookAt K H bk pl fl d s qs gs) (hP : H p = none) : ¬ (p = bk ∨ p = pl ∨ p = fl) := by
  obtain ⟨dx, q, kt, kn, ts, qv, gv, h1, h2, h3, h4, h5, h6⟩ := h
  rintro (e | e | e)
  · rw [e, h1] at hP; cases hP
  · rw [e, h3] at hP; cases hP
  · rw [e, h5] at hP; cases hP
theorem CmAt.sx {K : PySem.W.Frag} {H H' : Hp} {v : V} {c : Cm} {x : Addr} (s : SX x H H') (n : NT H x) (h : CmAt K H v c) : CmAt K H' v c := by
  cases c with
  | dfn z b => obtain ⟨a, u, e, h1, h2⟩ := h; exact ⟨a, u, e, s.tup n h1, h2.sx s n⟩
  | drp z => obtain ⟨a, e, h1⟩ := h; exact ⟨a, e, s.tup n h1⟩
  | ren z n' => obtain ⟨a, e, h1⟩ := h; exact ⟨a, e, s.tup n h1⟩
theorem CmsAt.sx {K : PySem.W.Frag} {H H' : Hp} {vs : List V} {cs : List Cm} {x : Addr} (s : SX x H H') (n : NT H x) (h : CmsAt K H vs cs) : CmsAt K H' vs cs := ⟨h.1, fun i v c hv hc => (h.2 i v c hv hc).sx s n⟩
theorem CmsAt.same {K : PySem.W.Frag} {H H' : Hp} {vs : List V} {cs : List Cm} (s : Same H H') (h : CmsAt K H vs cs) : CmsAt K H' vs cs := ⟨h.1, fun i v c hv hc => (h.2 i v c hv hc).same s⟩
theorem CmsAt.snoc {K : PySem.W.Frag} {H : Hp} {vs : List V} {cs : List Cm} {v : V} {c : Cm} (h : CmsAt K H vs cs) (hc : CmAt K H v c) : CmsAt K H (vs ++ [v]) (cs ++ [c]) := by
  refine ⟨by rw [List.length_append, List.length_append, h.1] <;> rfl, fun i u e hu he => ?_⟩
  have hl := h.1
  by_cases hi : i < vs.length
  · rw [List.getElem?_append_left hi] at hu
    rw [List.getElem?_append_left (by omega)] at he
    exact h.2 i u e hu he
  · rw [List.getElem?_append_right (by omega)] at hu he
    rw [hl] at hu
    cases hk : i - cs.length with
    | zero =>
      rw [hk] at hu he
      cases hu
      cases he
      exact hc
    | succ n =>
      rw [hk] at hu
      cases hu
theorem lcCm {K : PySem.W.Frag} {xs : List Str} {L : Addr} {j : Nat} {te : TE} {vs : List Nat} {σ : L2.St} {H0 : Hp} {Q : VK} (cm : Str → Cm) (hz : xs.length ≤ 100) (hw : ∀ x, wipe ((wipe σ vs).set j (some x)) vs = wipe σ vs) (hL : H0 L = some (.lst (xs.map V.str)))
    (hte : ∀ z H' (R : VK), z ∈ xs → Same H0 H' → (∀ v H2, Same H' H2 → CmAt K H2 v (cm z) → R v H2) → te ((wipe σ vs).set j (some (.str z))) H' R)
    (hq : ∀ D H' ws, Same H0 H' → H' D = some (.lst ws) → CmsAt K H' ws (xs.map cm) → Q (.ref D) H') : LcK (Itl K L) (gName j) tYes te vs σ Q H0 := by
  intro D hD
  refine lc_it (walk_list (xs := xs.map V.str)) (Pv := fun i H' => Same H0 H' ∧ ∃ ws, H' D = some (.lst ws) ∧ CmsAt K H' ws ((xs.take i).map cm)) ⟨same_upd hD, [], upd_same, rfl, fun i v c hv => nomatch hv⟩ (fun i H' _ e => .of (e.1 _ _ hL)) (fun i x H1 H2 hi e y => ?_) fun H1 e => ?_
  · obtain ⟨rfl, hx⟩ := y
    rw [List.getElem?_map] at hx
    cases hg : xs[i]? with
    | none => rw [hg] at hx; cases hx
    | some z =>
      rw [hg] at hx
      obtain rfl : V.str z = x := Option.some.inj hx
      obtain ⟨e1, ws, e2, e3⟩ := e
      refine ⟨hw _, ?_⟩
      simp only [tYes, ↓reduceIte]
      refine hte z _ _ (List.mem_of_getElem? hg) e1 fun v H3 s2 hv => ⟨ws, s2 _ _ e2, ?_, fun q o u => by rw [upd_ne (ne_of_none u hD)]; exact s2 _ _ (e1 _ _ u), ws ++ [v], upd_same, ?_⟩
      · have := e3.1
        rw [List.length_map, List.length_take] at this
        rw [sizeLine_eq]; omega
      · rw [List.take_add_one, hg]
        show CmsAt K _ _ ((xs.take i ++ [z]).map cm)
        rw [List.map_append]
        exact ((e3.same s2).snoc hv).sx SX.upd (nt_lst (s2 _ _ e2))
  · obtain ⟨e1, ws, e2, e3⟩ := e
    rw [List.length_map, List.take_length] at e3
    exact hq D H1 ws e1 e2 e3
/-- the slots up to the book; rest the ten behind it -/
def BK (K : PySem.W.Frag) (d : Int) (f : Nat) (L : Addr) (z1 z2 : Str) (bk : Addr) (s : KS) (ps fs : List KS) (rest : List (Option V)) : L2.St → Hp → Prop := fun σ H => ∃ l b pl fl, σ = some l :: some b :: some (.int d) :: some (.int f) :: some (.ref L) :: some (.str z1) :: some (.str z2) :: some (.ref bk) :: rest ∧ H L = some (.lst ((lets f).map V.str)) ∧ L ≠ bk ∧ L ≠ pl ∧ L ≠ fl ∧ BookAt K H bk pl fl d s ps fs
def A5 (K : PySem.W.Frag) (Pt : Addr) : L2.St → Hp → Prop := fun σ H => ∃ d f L z1 z2 bk bl, Lw d f z1 z2 ∧ H Pt = some (.tbl #[]) ∧ BK K d f L z1 z2 bk ([], bl) [] [] [none, none, none, none, none, none, none, none, none, none] σ H
theorem st5 (T : Tx w K mg) (hr : Room 40 (A.deeper (envOfC "law" (defScope (topS 131)) s0.heap.objs.size (He.ga K "law") (.ref c)))) :
    Stp (LX P w K mg base c A outer s0 H0 E) ((defBody (topS 131)).getD 4 (.Pass default)) (fun σ H => ∃ d f L z1 z2, Pm d f ∧ A4 K Pt d f L z1 z2 σ H) (A5 K Pt) := by
  refine ⟨_, (ps_set (i := 7) sc_law.nd rfl (Or.inr rfl) (pe_mk T.m_Book (r_Book__init_ (P := P) (w := w) (K := K) (base := base) T) hr (by rfl) T.g_Book passL (pa_cons (pv 2) pa_nil))), fun D σ H a nx => ?_⟩
  obtain ⟨d, f, L, z1, z2, pm, l, b, rfl, hP, hL, m1, m2, ne⟩ := a
  simp only [rd, rd2, rd3, rd4, rd5, List.getElem?_cons_zero, List.getElem?_cons_succ, Option.some.injEq, exists_eq_left', exists_eq_left, exists_and_left, exists_and_right, List.cons.injEq, V.str.injEq, V.int.injEq, V.bl.injEq, V.ref.injEq, V.ty.injEq, and_true, true_and, List.set_cons_zero, List.set_cons_succ, exists_const, exists_false, reduceCtorEq, ↓reduceIte, exists_eq, exists_eq', and_self, cxK, wipe, List.map_cons, List.map_nil, List.length_cons, List.length_nil, Nat.zero_add, Nat.reduceAdd, Int.cast_ofNat_Int, Int.reduceEq, Int.reduceLE, Int.reduceLT, decide_eq_true_eq, decide_true, decide_false, Bool.true_eq_false, Bool.false_eq_true, Bool.not_true, Bool.not_false]
  intro n dd hn hdn ne'
  have sm := same_made (C := He.ga K "Book") hn hdn
  refine ⟨n, dd, d, rfl, upd_same, pm.1, pm.2.1, fun H' pl fl bl sx hB => ⟨rfl, ?_⟩⟩
  have hL' := sx _ _ (sm _ _ hL) (ne_of_none hL hn)
  have ap := hB.apart0 hL' (by unfold lets; rw [List.range_succ]; simp)
  exact nx _ _ ⟨d, f, L, z1, z2, n, bl, ⟨pm, m1, m2, ne⟩, sx _ _ (sm _ _ hP) (ne_of_none hP hn), l, b, pl, fl, rfl, hL', ne_of_none hL hn, ap.1, ap.2, hB⟩
def A6 (K : PySem.W.Frag) (Pt : Addr) : L2.St → Hp → Prop := fun σ H => ∃ d f L z1 z2 bk s s1, Lw d f z1 z2 ∧ H Pt = some (.tbl #[]) ∧ BK K d f L z1 z2 bk s [s1] [] [none, none, none, none, none, none, none, none, none, none] σ H ∧ s.1 = srt (lets f)
theorem st6 (T : Tx w K mg) (hr : Room 40 (A.deeper (envOfC "law" (defScope (topS 131)) s0.heap.objs.size (He.ga K "law") (.ref c)))) :
    Stp (LX P w K mg base c A outer s0 H0 E) ((defBody (topS 131)).getD 5 (.Pass default)) (A5 K Pt) (A6 K Pt) := by
  refine ⟨_, (ps_expr (pe_m (pv 7) (r_Book_apply_all (P := P) (w := w) (K := K) (base := base) T) T.c_Book T.t_Book_apply_all hr (passes_call (takes_of rfl rfl rfl rfl) (fun _ _ _ _ h => h)) (pa_cons (pe_lc (own := [("_law_sign", 16)]) (g := gName 16) (tt := tYes) rfl sc_law.nd (pi_list (pv 4)) (blkOk_by (N := sc_lawN) (sc := (defScope (topS 131))) (by decide +kernel)) (fun _ _ _ _ _ => (pg_name (i := 16) sc_law.nd rfl (Or.inl rfl))) (fun _ _ _ _ _ => pts_nil) (fun _ _ _ _ _ => (pe_tup (pa_cons (pe_str) (pa_cons (pv 16) (pa_cons (pe_tup (pa_cons (pe_tup (pa_cons (pe_str) (pa_cons (pe_int) pa_nil))) pa_nil)) pa_nil)))))) pa_nil))), fun D σ H a nx => ?_⟩
  obtain ⟨d, f, L, z1, z2, bk, bl, lw, hP, l, b, pl, fl, rfl, hL, n1, n2, n3, hB⟩ := a
  simp only [rd, rd2, rd3, rd4, rd5, List.getElem?_cons_zero, List.getElem?_cons_succ, Option.some.injEq, exists_eq_left', exists_eq_left, exists_and_left, exists_and_right, List.cons.injEq, V.str.injEq, V.int.injEq, V.bl.injEq, V.ref.injEq, V.ty.injEq, and_true, true_and, List.set_cons_zero, List.set_cons_succ, exists_const, exists_false, reduceCtorEq, ↓reduceIte, exists_eq, exists_eq', and_self, cxK, wipe, List.map_cons, List.map_nil, List.length_cons, List.length_nil, Nat.zero_add, Nat.reduceAdd, Int.cast_ofNat_Int, Int.reduceEq, Int.reduceLE, Int.reduceLT, decide_eq_true_eq, decide_true, decide_false, Bool.true_eq_false, Bool.false_eq_true, Bool.not_true, Bool.not_false]
  obtain ⟨dx, p, hb⟩ : ∃ dx fs, H bk = some (.ins (He.ga K "Book") dx fs) ∧ fs.lookup ("apply_all" : Str) = none := by
    obtain ⟨dx, p, kt, kn, ts, qv, gv, h1, _⟩ := id hB
    exact ⟨dx, _, h1, by rfl⟩
  have lo := lets_facts lw.pm.2.2
  refine ⟨dx, p, hb.1, hb.2, ⟨_, .of hL⟩, lcCm (fun z => Cm.dfn z (some 1)) (by rw [lo.2.1]; decide) (fun _ => rfl) hL (fun z H' R hz s1 hR => ?_) fun D' H' ws s1 hD hc => ?_⟩
  · simp only [rd, rd2, rd3, rd4, rd5, List.getElem?_cons_zero, List.getElem?_cons_succ, Option.some.injEq, exists_eq_left', exists_eq_left, exists_and_left, exists_and_right, List.cons.injEq, V.str.injEq, V.int.injEq, V.bl.injEq, V.ref.injEq, V.ty.injEq, and_true, true_and, List.set_cons_zero, List.set_cons_succ, exists_const, exists_false, reduceCtorEq, ↓reduceIte, exists_eq, exists_eq', and_self, cxK, wipe, List.map_cons, List.map_nil, List.length_cons, List.length_nil, Nat.zero_add, Nat.reduceAdd, Int.cast_ofNat_Int, Int.reduceEq, Int.reduceLE, Int.reduceLT, decide_eq_true_eq, decide_true, decide_false, Bool.true_eq_false, Bool.false_eq_true, Bool.not_true, Bool.not_false]
    refine ⟨by rw [sizeLine_eq]; decide, fun p1 i1 => ⟨by rw [sizeLine_eq]; decide, fun p2 i2 => ⟨by rw [sizeLine_eq]; decide, fun p3 i3 => ?_⟩⟩⟩
    exact hR _ _ ((same_upd i1).trans ((same_upd i2).trans (same_upd i3))) ⟨p3, _, rfl, .of upd_same, p2, _, rfl, .of (same_upd i3 _ _ upd_same), p1, rfl, .of (same_upd i3 _ _ (same_upd i2 _ _ upd_same)), .inl rfl⟩
  · obtain ⟨s', h1, h2, h3⟩ := rn_dfn (lets f) ([], bl) (by simpa using lo.1) (fun z hz => (lo.2.2 z hz).1) (by show 0 + (lets f).length ≤ 12; omega) List.Pairwise.nil
    refine ⟨bk, pl, fl, d, ([], bl), [], [], D', ws, _, some s', rfl, hB.same s1, by decide, .of hD, hc, h1, (fun q => nomatch q), fun s'' e H2 fl' x2 hfl hB2 => ?_⟩
    cases e
    have hL2 := x2 _ _ (s1 _ _ hL) (fun q => by rcases q with q | q | q; exact n1 q; exact n2 q; exact n3 q)
    exact nx _ _ ⟨d, f, L, z1, z2, bk, s', ([], bl), lw, x2 _ _ (s1 _ _ hP) (pt_ne (s1 _ _ hP) (hB.same s1)), ⟨l, b, pl, fl', rfl, hL2, n1, n2, ne_of_none (s1 _ _ hL) hfl, hB2⟩, up_eq h3 (srt_up _) (h2.trans (srt_perm _).symm)⟩
/-- the letters without one -/
def mid (f : Nat) (z : Str) : List Str := (lets f).filter fun y => decide (y ≠ z)
theorem mid_len : ∀ f, f < 14 → ∀ z ∈ lets f, (mid f z).length = 11 := by decide +kernel
theorem CmsAt.nil {K : PySem.W.Frag} {H : Hp} : CmsAt K H [] [] := ⟨rfl, fun i v c hv => nomatch hv⟩
theorem lets_long {f : Nat} (hf : f < 14) {z : Str} (hz : z.length ≠ 1) : z ∉ lets f := fun q => hz ((lets_facts hf).2.2 z q).2.1
def A7 (K : PySem.W.Frag) (Pt : Addr) (n : Nat) (rest : Str → Int → Nat → List (Option V)) : L2.St → Hp → Prop := fun σ H => ∃ d f L z1 z2 bk s ps, Lw d f z1 z2 ∧ H Pt = some (.tbl #[]) ∧ BK K d f L z1 z2 bk s ps [] (rest z1 d f) σ H ∧ s.1 = srt (mid f z1 ++ [("zz" : Str)]) ∧ ps.length = n
theorem st7 (T : Tx w K mg) (hr : Room 40 (A.deeper (envOfC "law" (defScope (topS 131)) s0.heap.objs.size (He.ga K "law") (.ref c)))) :
    Stp (LX P w K mg base c A outer s0 H0 E) ((defBody (topS 131)).getD 6 (.Pass default)) (A6 K Pt) (A7 K Pt 2 fun _ _ _ => [none, none, none, none, none, none, none, none, none, none]) := by
  refine ⟨_, (ps_expr (pe_m (pv 7) (r_Book_apply_all (P := P) (w := w) (K := K) (base := base) T) T.c_Book T.t_Book_apply_all hr (passes_call (takes_of rfl rfl rfl rfl) (fun _ _ _ _ h => h)) (pa_cons (pe_lst (pa_cons (pe_tup (pa_cons (pe_str) (pa_cons (pv 5) pa_nil))) (pa_cons (pe_tup (pa_cons (pe_str) (pa_cons (pe_str) (pa_cons (pe_tup pa_nil) pa_nil)))) pa_nil))) pa_nil))), fun D σ H a nx => ?_⟩
  obtain ⟨d, f, L, z1, z2, bk, s, s1, lw, hP, ⟨l, b, pl, fl, rfl, hL, n1, n2, n3, hB⟩, hs⟩ := a
  simp only [rd, rd2, rd3, rd4, rd5, List.getElem?_cons_zero, List.getElem?_cons_succ, Option.some.injEq, exists_eq_left', exists_eq_left, exists_and_left, exists_and_right, List.cons.injEq, V.str.injEq, V.int.injEq, V.bl.injEq, V.ref.injEq, V.ty.injEq, and_true, true_and, List.set_cons_zero, List.set_cons_succ, exists_const, exists_false, reduceCtorEq, ↓reduceIte, exists_eq, exists_eq', and_self, cxK, wipe, List.map_cons, List.map_nil, List.length_cons, List.length_nil, Nat.zero_add, Nat.reduceAdd, Int.cast_ofNat_Int, Int.reduceEq, Int.reduceLE, Int.reduceLT, decide_eq_true_eq, decide_true, decide_false, Bool.true_eq_false, Bool.false_eq_true, Bool.not_true, Bool.not_false]
  obtain ⟨dx, p, hb⟩ : ∃ dx fs, H bk = some (.ins (He.ga K "Book") dx fs) ∧ fs.lookup ("apply_all" : Str) = none := by
    obtain ⟨dx, p, kt, kn, ts, qv, gv, h1, _⟩ := id hB
    exact ⟨dx, _, h1, by rfl⟩
  have lo := lets_facts lw.pm.2.2
  have pm : s.1.Perm (lets f) := hs ▸ srt_perm _
  refine ⟨dx, p, hb.1, hb.2, ?_⟩
  refine ⟨by rw [sizeLine_eq]; decide, fun p1 i1 => ⟨by rw [sizeLine_eq]; decide, fun p2 i2 => ⟨by rw [sizeLine_eq]; decide, fun p3 i3 => ⟨by rw [sizeLine_eq]; decide, fun p4 i4 => ?_⟩⟩⟩⟩
  have t4 := same_upd (o := .lst [.ref p1, .ref p3]) i4
  have t3 := (same_upd (o := .tup [.str "define", .str "zz", .ref p2]) i3).trans t4
  have t2 := (same_upd (o := .tup []) i2).trans t3
  have t1 := (same_upd (o := .tup [.str "drop", .str z1]) i1).trans t2
  have lm := mid_len f lw.pm.2.2 z1 lw.m1
  have p1' : (srt (s.1.filter fun y => decide (y ≠ z1))).Perm (mid f z1) := (srt_perm _).trans (pm.filter _)
  have hz : ("zz" : Str) ∉ srt (s.1.filter fun y => decide (y ≠ z1)) := fun q => lets_long lw.pm.2.2 (by decide) (List.mem_filter.mp (p1'.mem_iff.mp q)).1
  refine ⟨bk, pl, fl, d, s, [s1], [], p4, [.ref p1, .ref p3], [.drp z1, .dfn "zz" none], some (((Cm.dfn "zz" none).nk ((Cm.drp z1).nk s.1)), ((Cm.dfn "zz" none).nb ((Cm.drp z1).nb s.2))), rfl, hB.same t1, (show (1 : Nat) < 1000 by decide), .of upd_same, ?_, ?_, (fun q => nomatch q), fun s'' e H2 fl' x2 hfl hB2 => ?_⟩
  · exact (CmsAt.nil.snoc (v := .ref p1) (c := .drp z1) ⟨p1, rfl, .of (t2 _ _ upd_same)⟩).snoc (v := .ref p3) (c := .dfn "zz" none) ⟨p3, _, rfl, .of (t4 _ _ upd_same), p2, [], rfl, .of (t3 _ _ upd_same), rfl⟩
  · exact .step (show z1 ∈ s.1 from pm.mem_iff.mpr lw.m1) (fun q => q.elim) (.step ⟨by decide +kernel, hz⟩ (fun q => by have q : (srt (s.1.filter fun y => decide (y ≠ z1))).length = 12 := q; rw [p1'.length_eq, lm] at q; cases q) (.nil _))
  · cases e
    have hL2 := x2 _ _ (t1 _ _ hL) (fun q => by rcases q with q | q | q; exact n1 q; exact n2 q; exact n3 q)
    exact nx _ _ ⟨d, f, L, z1, z2, bk, _, _, lw, x2 _ _ (t1 _ _ hP) (pt_ne (t1 _ _ hP) (hB.same t1)), ⟨l, b, pl, fl', rfl, hL2, n1, n2, ne_of_none (t1 _ _ hL) hfl, hB2⟩, srt_congr (p1'.append_right _), rfl⟩
/-- the state with the list of due names NL, rest behind it -/
def BN (K : PySem.W.Frag) (d : Int) (f : Nat) (L NL : Addr) (z1 z2 : Str) (bk : Addr) (s : KS) (ps fs : List KS) (rest : List (Option V)) (ex : List Addr) : L2.St → Hp → Prop := fun σ H => ∃ l b pl fl, σ = some l :: some b :: some (.int d) :: some (.int f) :: some (.ref L) :: some (.str z1) :: some (.str z2) :: some (.ref bk) :: some (.ref NL) :: rest ∧ H L = some (.lst ((lets f).map V.str)) ∧
  H NL = some (.lst ((srt (mid f z1 ++ [("zz" : Str)])).map V.str)) ∧ ¬ (L = bk ∨ L = pl ∨ L = fl) ∧ ¬ (NL = bk ∨ NL = pl ∨ NL = fl) ∧ BookAt K H bk pl fl d s ps fs ∧ ∀ a ∈ ex, ¬ (a = bk ∨ a = pl ∨ a = fl)
def A8 (K : PySem.W.Frag) (Pt : Addr) : L2.St → Hp → Prop := fun σ H => ∃ d f L NL z1 z2 bk s ps, Lw d f z1 z2 ∧ H Pt = some (.tbl #[]) ∧ BN K d f L NL z1 z2 bk s ps [] [none, none, none, none, none, none, none, none, none] [] σ H ∧ s.1 = srt (mid f z1 ++ [("zz" : Str)]) ∧ ps.length = 2
theorem st8 (T : Tx w K mg) (hr : Room 40 (A.deeper (envOfC "law" (defScope (topS 131)) s0.heap.objs.size (He.ga K "law") (.ref c)))) :
    Stp (LX P w K mg base c A outer s0 H0 E) ((defBody (topS 131)).getD 7 (.Pass default)) (A7 K Pt 2 fun _ _ _ => [none, none, none, none, none, none, none, none, none, none]) (A8 K Pt) := by
  refine ⟨_, (ps_set (i := 8) sc_law.nd rfl (Or.inl rfl) (pe_callB cr_sortedS (by rfl) T.n_sorted (by decide +kernel) (pa_cons (pe_op op_cat (pe_lc (own := [("_law_sign", 16)]) (g := gName 16) rfl sc_law.nd (pi_list (pv 4)) (blkOk_by (N := sc_lawN) (sc := (defScope (topS 131))) (by decide +kernel)) (fun _ _ _ _ _ => (pg_name (i := 16) sc_law.nd rfl (Or.inl rfl))) (fun _ _ _ _ _ => (pts_one (pt_cmpR op_ne (pv 16) (pv 5) (nomark _)))) (fun _ _ _ _ _ => (pv 16))) (pe_lst (pa_cons (pe_str) pa_nil))) pa_nil))), fun D σ H a nx => ?_⟩
  obtain ⟨d, f, L, z1, z2, bk, s, ps, lw, hP, ⟨l, b, pl, fl, rfl, hL, n1, n2, n3, hB⟩, hs, hn⟩ := a
  simp only [rd, rd2, rd3, rd4, rd5, List.getElem?_cons_zero, List.getElem?_cons_succ, Option.some.injEq, exists_eq_left', exists_eq_left, exists_and_left, exists_and_right, List.cons.injEq, V.str.injEq, V.int.injEq, V.bl.injEq, V.ref.injEq, V.ty.injEq, and_true, true_and, List.set_cons_zero, List.set_cons_succ, exists_const, exists_false, reduceCtorEq, ↓reduceIte, exists_eq, exists_eq', and_self, cxK, wipe, List.map_cons, List.map_nil, List.length_cons, List.length_nil, Nat.zero_add, Nat.reduceAdd, Int.cast_ofNat_Int, Int.reduceEq, Int.reduceLE, Int.reduceLT, decide_eq_true_eq, decide_true, decide_false, Bool.true_eq_false, Bool.false_eq_true, Bool.not_true, Bool.not_false]
  have lo := lets_facts lw.pm.2.2
  have lm := mid_len f lw.pm.2.2 z1 lw.m1
  refine ⟨⟨_, .of hL⟩, lcG (walk_list (xs := (lets f).map V.str)) (fun v => !decide (v = .str z1)) (fun v => v) (by rw [List.length_map, lo.2.1]; decide) (fun _ => rfl) (fun H' s1 => .of (s1 _ _ hL)) (fun x H' R hx s1 hR => ?_) (fun x H' R hx _ s1 hR => ?_) fun D' H' s1 hD => ?_⟩
  · obtain ⟨z, hz, rfl⟩ := List.mem_map.mp hx
    simp only [rd, rd2, rd3, rd4, rd5, List.getElem?_cons_zero, List.getElem?_cons_succ, Option.some.injEq, exists_eq_left', exists_eq_left, exists_and_left, exists_and_right, List.cons.injEq, V.str.injEq, V.int.injEq, V.bl.injEq, V.ref.injEq, V.ty.injEq, and_true, true_and, List.set_cons_zero, List.set_cons_succ, exists_const, exists_false, reduceCtorEq, ↓reduceIte, exists_eq, exists_eq', and_self, cxK, wipe, List.map_cons, List.map_nil, List.length_cons, List.length_nil, Nat.zero_add, Nat.reduceAdd, Int.cast_ofNat_Int, Int.reduceEq, Int.reduceLE, Int.reduceLT, decide_eq_true_eq, decide_true, decide_false, Bool.true_eq_false, Bool.false_eq_true, Bool.not_true, Bool.not_false]
    exact ⟨rfl, by have h := hR _ (Same.refl H'); simpa using h⟩
  · simp only [rd, rd2, rd3, rd4, rd5, List.getElem?_cons_zero, List.getElem?_cons_succ, Option.some.injEq, exists_eq_left', exists_eq_left, exists_and_left, exists_and_right, List.cons.injEq, V.str.injEq, V.int.injEq, V.bl.injEq, V.ref.injEq, V.ty.injEq, and_true, true_and, List.set_cons_zero, List.set_cons_succ, exists_const, exists_false, reduceCtorEq, ↓reduceIte, exists_eq, exists_eq', and_self, cxK, wipe, List.map_cons, List.map_nil, List.length_cons, List.length_nil, Nat.zero_add, Nat.reduceAdd, Int.cast_ofNat_Int, Int.reduceEq, Int.reduceLE, Int.reduceLT, decide_eq_true_eq, decide_true, decide_false, Bool.true_eq_false, Bool.false_eq_true, Bool.not_true, Bool.not_false]
    exact hR _ (Same.refl _)
  · have hD2 : H' D' = some (.lst ((mid f z1).map V.str)) := by
      rw [hD, List.map_id', List.filter_map]
      congr 2
      unfold mid
      congr 1
      refine List.filter_congr fun y _ => ?_
      simp
    refine ⟨by rw [sizeLine_eq]; decide, fun p1 i1 => ?_⟩
    refine ⟨D', p1, _, _, rfl, rfl, same_upd i1 _ _ hD2, upd_same, by rw [List.length_map, lm, sizeLine_eq]; decide, fun p2 i2 => ⟨p2, mid f z1 ++ [("zz" : Str)], rfl, .of (by rw [upd_same, List.map_append] <;> rfl), by rw [List.length_append, lm]; decide, fun ys p3 pm hs3 i3 => ?_⟩⟩
    obtain rfl := srt_of pm hs3
    have t0 : Same H _ := s1.trans ((same_upd (o := .lst [.str "zz"]) i1).trans (same_upd (o := .lst ((mid f z1).map V.str ++ [.str "zz"])) i2))
    have t := t0.trans (same_upd (o := .lst ((srt (mid f z1 ++ [("zz" : Str)])).map V.str)) i3)
    exact nx _ _ ⟨d, f, L, p3, z1, z2, bk, s, ps, lw, t _ _ hP, ⟨l, b, pl, fl, rfl, t _ _ hL, upd_same, (fun q => by rcases q with q | q | q; exact n1 q; exact n2 q; exact n3 q), (hB.same t0).fresh i3, hB.same t, (fun a q => nomatch q)⟩, hs, hn⟩
def BatchAt (K : PySem.W.Frag) (H : Hp) (b : Addr) (cs : List Cm) : Prop := ∃ vs, H b = some (.lst vs) ∧ CmsAt K H vs cs
theorem BatchAt.same {K : PySem.W.Frag} {H H' : Hp} {b : Addr} {cs : List Cm} (s : Same H H') (h : BatchAt K H b cs) : BatchAt K H' b cs := by
  obtain ⟨vs, h1, h2⟩ := h
  exact ⟨vs, s _ _ h1, h2.same s⟩
theorem BatchAt.sx {K : PySem.W.Frag} {H H' : Hp} {b x : Addr} {cs : List Cm} {xs : List V} (s : SX x H H') (n : b ≠ x) (hx : H x = some (.lst xs)) (h : BatchAt K H b cs) : BatchAt K H' b cs := by
  obtain ⟨vs, h1, h2⟩ := h
  exact ⟨vs, s _ _ h1 n, h2.sx s (nt_lst hx)⟩
theorem BookAt.sx1 {K : PySem.W.Frag} {H H' : Hp} {x bk pl fl : Addr} {d : Int} {s : KS} {qs gs : List KS} {xs : List V} (e : SX x H H') (n : ¬ (x = bk ∨ x = pl ∨ x = fl)) (hx : H x = some (.lst xs)) (h : BookAt K H bk pl fl d s qs gs) : BookAt K H' bk pl fl d s qs gs := by
  obtain ⟨dx, p, kt, kn, ts, qv, gv, h1, h2, h3, h4, h5, h6, h7, h8, h9, h10⟩ := h
  have m : SP (fun y => y = x) H H' := e.sp rfl
  have np : ∀ y, y = x → NP H y := fun y q => q ▸ np_lst hx
  exact ⟨dx, p, kt, kn, ts, qv, gv, e _ _ h1 (fun q => n (.inl q.symm)), h2.sp m np, e _ _ h3 (fun q => n (.inr (.inl q.symm))), h4.sp m np, e _ _ h5 (fun q => n (.inr (.inr q.symm))), h6.sp m np, h7, m.tup np h8, m.tup np h9, h10⟩
def cs1 (z : Str) : List Cm := [.dfn "yy" none, .drp z]
def cs2 (z : Str) : List Cm := [.drp z, .dfn "yy" none, .dfn "xx" none]
def cs3 : List Cm := [.ren "zz" "yy", .dfn "zz" none]
def A9 (K : PySem.W.Frag) (Pt : Addr) : L2.St → Hp → Prop := fun σ H => ∃ d f L NL z1 z2 bk s ps Bt b1 b2, Lw d f z1 z2 ∧ H Pt = some (.tbl #[]) ∧ BN K d f L NL z1 z2 bk s ps [] [some (.ref Bt), none, none, none, none, none, none, none, none] [Bt] σ H ∧ s.1 = srt (mid f z1 ++ [("zz" : Str)]) ∧ ps.length = 2 ∧
  H Bt = some (.lst [.ref b1, .ref b2]) ∧ (L ≠ Bt ∧ NL ≠ Bt ∧ b1 ≠ Bt ∧ b2 ≠ Bt) ∧ BatchAt K H b1 (cs1 z2) ∧ BatchAt K H b2 (cs2 z2)
theorem st9 (T : Tx w K mg) (hr : Room 40 (A.deeper (envOfC "law" (defScope (topS 131)) s0.heap.objs.size (He.ga K "law") (.ref c)))) :
    Stp (LX P w K mg base c A outer s0 H0 E) ((defBody (topS 131)).getD 8 (.Pass default)) (A8 K Pt) (A9 K Pt) := by
  refine ⟨_, (ps_set (i := 9) sc_law.nd rfl (Or.inl rfl) (pe_lst (pa_cons (pe_lst (pa_cons (pe_tup (pa_cons (pe_str) (pa_cons (pe_str) (pa_cons (pe_tup pa_nil) pa_nil)))) (pa_cons (pe_tup (pa_cons (pe_str) (pa_cons (pv 6) pa_nil))) pa_nil))) (pa_cons (pe_lst (pa_cons (pe_tup (pa_cons (pe_str) (pa_cons (pv 6) pa_nil))) (pa_cons (pe_tup (pa_cons (pe_str) (pa_cons (pe_str) (pa_cons (pe_tup pa_nil) pa_nil)))) (pa_cons (pe_tup (pa_cons (pe_str) (pa_cons (pe_str) (pa_cons (pe_tup pa_nil) pa_nil)))) pa_nil)))) pa_nil)))), fun D σ H a nx => ?_⟩
  obtain ⟨d, f, L, NL, z1, z2, bk, s, ps, lw, hP, ⟨l, b, pl, fl, rfl, hL, hNL, n1, n2, hB, hex⟩, hs, hn⟩ := a
  simp only [rd, rd2, rd3, rd4, rd5, List.getElem?_cons_zero, List.getElem?_cons_succ, Option.some.injEq, exists_eq_left', exists_eq_left, exists_and_left, exists_and_right, List.cons.injEq, V.str.injEq, V.int.injEq, V.bl.injEq, V.ref.injEq, V.ty.injEq, and_true, true_and, List.set_cons_zero, List.set_cons_succ, exists_const, exists_false, reduceCtorEq, ↓reduceIte, exists_eq, exists_eq', and_self, cxK, wipe, List.map_cons, List.map_nil, List.length_cons, List.length_nil, Nat.zero_add, Nat.reduceAdd, Int.cast_ofNat_Int, Int.reduceEq, Int.reduceLE, Int.reduceLT, decide_eq_true_eq, decide_true, decide_false, Bool.true_eq_false, Bool.false_eq_true, Bool.not_true, Bool.not_false]
  refine ⟨by rw [sizeLine_eq]; decide, fun p1 ip1 => ⟨by rw [sizeLine_eq]; decide, fun p2 ip2 => ⟨by rw [sizeLine_eq]; decide, fun p3 ip3 => ⟨by rw [sizeLine_eq]; decide, fun p4 ip4 => ⟨by rw [sizeLine_eq]; decide, fun p5 ip5 => ⟨by rw [sizeLine_eq]; decide, fun p6 ip6 => ⟨by rw [sizeLine_eq]; decide, fun p7 ip7 => ⟨by rw [sizeLine_eq]; decide, fun p8 ip8 => ⟨by rw [sizeLine_eq]; decide, fun p9 ip9 => ⟨by rw [sizeLine_eq]; decide, fun p10 ip10 => ⟨by rw [sizeLine_eq]; decide, fun p11 ip11 => ?_⟩⟩⟩⟩⟩⟩⟩⟩⟩⟩⟩
  have wp11 := same_upd (o := .lst [.ref p4, .ref p10]) ip11
  have wp10 := (same_upd (o := .lst [.ref p5, .ref p7, .ref p9]) ip10).trans wp11
  have wp9 := (same_upd (o := .tup [.str "define", .str "xx", .ref p8]) ip9).trans wp10
  have wp8 := (same_upd (o := .tup []) ip8).trans wp9
  have wp7 := (same_upd (o := .tup [.str "define", .str "yy", .ref p6]) ip7).trans wp8
  have wp6 := (same_upd (o := .tup []) ip6).trans wp7
  have wp5 := (same_upd (o := .tup [.str "drop", .str z2]) ip5).trans wp6
  have wp4 := (same_upd (o := .lst [.ref p2, .ref p3]) ip4).trans wp5
  have wp3 := (same_upd (o := .tup [.str "drop", .str z2]) ip3).trans wp4
  have wp2 := (same_upd (o := .tup [.str "define", .str "yy", .ref p1]) ip2).trans wp3
  have wp1 := (same_upd (o := .tup []) ip1).trans wp2
  have v4 := (same_upd (o := .tup [.str "drop", .str z2]) ip5).trans ((same_upd (o := .tup []) ip6).trans ((same_upd (o := .tup [.str "define", .str "yy", .ref p6]) ip7).trans ((same_upd (o := .tup []) ip8).trans ((same_upd (o := .tup [.str "define", .str "xx", .ref p8]) ip9).trans (same_upd (o := .lst [.ref p5, .ref p7, .ref p9]) ip10)))))
  have vp := (same_upd (o := .tup []) ip1).trans ((same_upd (o := .tup [.str "define", .str "yy", .ref p1]) ip2).trans ((same_upd (o := .tup [.str "drop", .str z2]) ip3).trans ((same_upd (o := .lst [.ref p2, .ref p3]) ip4).trans ((same_upd (o := .tup [.str "drop", .str z2]) ip5).trans ((same_upd (o := .tup []) ip6).trans ((same_upd (o := .tup [.str "define", .str "yy", .ref p6]) ip7).trans ((same_upd (o := .tup []) ip8).trans ((same_upd (o := .tup [.str "define", .str "xx", .ref p8]) ip9).trans (same_upd (o := .lst [.ref p5, .ref p7, .ref p9]) ip10)))))))))
  exact nx _ _ ⟨d, f, L, NL, z1, z2, bk, s, ps, p11, p4, p10, lw, wp1 _ _ hP, ⟨l, b, pl, fl, rfl, wp1 _ _ hL, wp1 _ _ hNL, n1, n2, hB.same wp1, (fun a q => List.mem_singleton.mp q ▸ (hB.same vp).fresh ip11)⟩, hs, hn, upd_same, ⟨ne_of_none (vp _ _ hL) ip11, ne_of_none (vp _ _ hNL) ip11, ne_of_none (v4 _ _ upd_same) ip11, ne_of_none upd_same ip11⟩,
    ⟨_, (wp5 _ _ upd_same), (CmsAt.nil.snoc (v := .ref p2) (c := .dfn "yy" none) ⟨p2, _, rfl, .of (wp3 _ _ upd_same), p1, [], rfl, .of (wp2 _ _ upd_same), rfl⟩).snoc (v := .ref p3) (c := .drp z2) ⟨p3, rfl, .of (wp4 _ _ upd_same)⟩⟩,
    ⟨_, (wp11 _ _ upd_same), ((CmsAt.nil.snoc (v := .ref p5) (c := .drp z2) ⟨p5, rfl, .of (wp6 _ _ upd_same)⟩).snoc (v := .ref p7) (c := .dfn "yy" none) ⟨p7, _, rfl, .of (wp8 _ _ upd_same), p6, [], rfl, .of (wp7 _ _ upd_same), rfl⟩).snoc (v := .ref p9) (c := .dfn "xx" none) ⟨p9, _, rfl, .of (wp10 _ _ upd_same), p8, [], rfl, .of (wp9 _ _ upd_same), rfl⟩⟩⟩
def A10 (K : PySem.W.Frag) (Pt : Addr) : L2.St → Hp → Prop := fun σ H => ∃ d f L NL z1 z2 bk s ps Bt b1 b2 b3, Lw d f z1 z2 ∧ H Pt = some (.tbl #[]) ∧ BN K d f L NL z1 z2 bk s ps [] [some (.ref Bt), none, none, none, none, none, none, none, none] [] σ H ∧ s.1 = srt (mid f z1 ++ [("zz" : Str)]) ∧ ps.length = 2 ∧
  H Bt = some (.lst [.ref b1, .ref b2, .ref b3]) ∧ BatchAt K H b1 (cs1 z2) ∧ BatchAt K H b2 (cs2 z2) ∧ BatchAt K H b3 cs3
theorem st10 (T : Tx w K mg) (hr : Room 40 (A.deeper (envOfC "law" (defScope (topS 131)) s0.heap.objs.size (He.ga K "law") (.ref c)))) :
    Stp (LX P w K mg base c A outer s0 H0 E) ((defBody (topS 131)).getD 9 (.Pass default)) (A9 K Pt) (A10 K Pt) := by
  refine ⟨_, (ps_expr (pe_bm PySem.F.plainAttrs_list PySem.F.slot_list_append PySem.F.type_list_append mt_append (pv 9) (pa_cons (pe_lst (pa_cons (pe_tup (pa_cons (pe_str) (pa_cons (pe_str) (pa_cons (pe_str) pa_nil)))) (pa_cons (pe_tup (pa_cons (pe_str) (pa_cons (pe_str) (pa_cons (pe_tup pa_nil) pa_nil)))) pa_nil))) pa_nil))), fun D σ H a nx => ?_⟩
  obtain ⟨d, f, L, NL, z1, z2, bk, s, ps, Bt, b1, b2, lw, hP, ⟨l, b, pl, fl, rfl, hL, hNL, n1, n2, hB, hex⟩, hs, hn, hBt, ⟨q1, q2, q3, q4⟩, hb1, hb2⟩ := a
  simp only [rd, rd2, rd3, rd4, rd5, List.getElem?_cons_zero, List.getElem?_cons_succ, Option.some.injEq, exists_eq_left', exists_eq_left, exists_and_left, exists_and_right, List.cons.injEq, V.str.injEq, V.int.injEq, V.bl.injEq, V.ref.injEq, V.ty.injEq, and_true, true_and, List.set_cons_zero, List.set_cons_succ, exists_const, exists_false, reduceCtorEq, ↓reduceIte, exists_eq, exists_eq', and_self, cxK, wipe, List.map_cons, List.map_nil, List.length_cons, List.length_nil, Nat.zero_add, Nat.reduceAdd, Int.cast_ofNat_Int, Int.reduceEq, Int.reduceLE, Int.reduceLT, decide_eq_true_eq, decide_true, decide_false, Bool.true_eq_false, Bool.false_eq_true, Bool.not_true, Bool.not_false]
  refine ⟨.inl ⟨rfl, _, .of hBt⟩, ?_⟩
  refine ⟨by rw [sizeLine_eq]; decide, fun p1 ip1 => ⟨by rw [sizeLine_eq]; decide, fun p2 ip2 => ⟨by rw [sizeLine_eq]; decide, fun p3 ip3 => ⟨by rw [sizeLine_eq]; decide, fun p4 ip4 => ?_⟩⟩⟩⟩
  have wp4 := same_upd (o := .lst [.ref p1, .ref p3]) ip4
  have wp3 := (same_upd (o := .tup [.str "define", .str "zz", .ref p2]) ip3).trans wp4
  have wp2 := (same_upd (o := .tup []) ip2).trans wp3
  have wp1 := (same_upd (o := .tup [.str "rename", .str "zz", .str "yy"]) ip1).trans wp2
  refine ⟨Bt, _, _, rfl, rfl, wp1 _ _ hBt, by rw [sizeLine_eq]; exact (show (2 : Nat) < 16777216 by decide), ?_⟩
  have nP := ne_of hP hBt (by intro z; cases z)
  have hb := wp1 _ _ hBt
  have n4 : p4 ≠ Bt := (ne_of_none (((same_upd (o := .tup [.str "rename", .str "zz", .str "yy"]) ip1).trans ((same_upd (o := .tup []) ip2).trans (same_upd (o := .tup [.str "define", .str "zz", .ref p2]) ip3))) _ _ hBt) ip4).symm
  have h4 : BatchAt K _ p4 cs3 := ⟨_, upd_same, (CmsAt.nil.snoc (v := .ref p1) (c := .ren "zz" "yy") ⟨p1, rfl, .of (wp2 _ _ upd_same)⟩).snoc (v := .ref p3) (c := .dfn "zz" none) ⟨p3, _, rfl, .of (wp4 _ _ upd_same), p2, [], rfl, .of (wp3 _ _ upd_same), rfl⟩⟩
  exact nx _ _ ⟨d, f, L, NL, z1, z2, bk, s, ps, Bt, b1, b2, p4, lw, SX.upd _ _ (wp1 _ _ hP) nP, ⟨l, b, pl, fl, rfl, SX.upd _ _ (wp1 _ _ hL) q1, SX.upd _ _ (wp1 _ _ hNL) q2, n1, n2, BookAt.sx1 SX.upd (hex Bt List.mem_cons_self) hb (hB.same wp1), (fun a q => nomatch q)⟩, hs, hn, upd_same, BatchAt.sx SX.upd q3 hb (hb1.same wp1), BatchAt.sx SX.upd q4 hb (hb2.same wp1), BatchAt.sx SX.upd n4 hb h4⟩
theorem perm_filter {l : List Str} {z : Str} (nd : l.Nodup) (h : z ∈ l) : ((l.filter fun x => decide (x ≠ z)) ++ [z]).Perm l := by
  have e : l.erase z = l.filter fun x => decide (x ≠ z) := by
    rw [nd.erase_eq_filter]
    refine List.filter_congr fun x _ => ?_
    by_cases q : x = z
    · subst q; simp
    · rw [decide_eq_true q]; exact bne_iff_ne.mpr q
  have p := List.perm_cons_erase h
  rw [e] at p
  exact (List.perm_append_singleton z _).trans p.symm
theorem back_perm {l : List Str} {z y : Str} (nd : l.Nodup) (hz : z ∈ l) (hy : y ∉ l) : (srt ((srt (srt (l.filter fun x => decide (x ≠ z)) ++ [y])).map fun x => if x = y then z else x)).Perm l := by
  have p1 : ((srt (srt (l.filter fun x => decide (x ≠ z)) ++ [y])).map fun x => if x = y then z else x).Perm (((l.filter fun x => decide (x ≠ z)) ++ [y]).map fun x => if x = y then z else x) := ((srt_perm _).trans ((srt_perm _).append_right _)).map _
  have e : (((l.filter fun x => decide (x ≠ z)) ++ [y]).map fun x => if x = y then z else x) = (l.filter fun x => decide (x ≠ z)) ++ [z] := by
    rw [List.map_append]
    congr 1
    · conv => rhs; rw [← List.map_id (l.filter fun x => decide (x ≠ z))]
      refine List.map_congr_left fun x hx => ?_
      have hxy : ¬ x = y := fun q => hy (by rw [← q]; exact (List.mem_filter.mp hx).1)
      rw [if_neg hxy] <;> rfl
    · rw [List.map_cons, List.map_nil, if_pos rfl]
  rw [e] at p1
  exact (srt_perm _).trans (p1.trans (perm_filter nd hz))
theorem names_not {d : Int} {f : Nat} {z1 z2 : Str} (lw : Lw d f z1 z2) {l : List Str} (pm : l.Perm (mid f z1 ++ [("zz" : Str)])) {y : Str} (h1 : y.length ≠ 1) (h2 : y ≠ "zz") : y ∉ l := fun q => by
  rcases List.mem_append.mp (pm.mem_iff.mp q) with q | q
  · exact lets_long lw.pm.2.2 h1 (List.mem_filter.mp q).1
  · exact h2 (List.mem_singleton.mp q)
theorem names_nodup {d : Int} {f : Nat} {z1 z2 : Str} (lw : Lw d f z1 z2) : (mid f z1 ++ [("zz" : Str)]).Nodup := by
  refine List.nodup_append.mpr ⟨(lets_facts lw.pm.2.2).1.filter _, List.nodup_cons.mpr ⟨List.not_mem_nil, List.nodup_nil⟩, fun a ha b hb e => ?_⟩
  subst e
  exact lets_long lw.pm.2.2 (by rw [List.mem_singleton.mp hb]; decide) (List.mem_filter.mp ha).1
/-- behind the loop -/
def A11 (K : PySem.W.Frag) (n : Nat) : L2.St → Hp → Prop := fun σ H => ∃ d f L NL z1 z2 bk s ps r1 r2, Lw d f z1 z2 ∧ BN K d f L NL z1 z2 bk s ps [] [r1, r2, none, none, none, none, none, none, none] [] σ H ∧ s.1 = srt (mid f z1 ++ [("zz" : Str)]) ∧ ps.length = n
theorem st12 (T : Tx w K mg) (hr : Room 40 (A.deeper (envOfC "law" (defScope (topS 131)) s0.heap.objs.size (He.ga K "law") (.ref c)))) :
    Stp (LX P w K mg base c A outer s0 H0 E) ((defBody (topS 131)).getD 11 (.Pass default)) (A11 K 2) (A11 K 3) := by
  refine ⟨_, (ps_expr (pe_m (pv 7) (r_Book_apply_all (P := P) (w := w) (K := K) (base := base) T) T.c_Book T.t_Book_apply_all hr (passes_call (takes_of rfl rfl rfl rfl) (fun _ _ _ _ h => h)) (pa_cons (pe_lst (pa_cons (pe_tup (pa_cons (pe_str) (pa_cons (pv 6) pa_nil))) (pa_cons (pe_tup (pa_cons (pe_str) (pa_cons (pe_str) (pa_cons (pe_tup pa_nil) pa_nil)))) (pa_cons (pe_tup (pa_cons (pe_str) (pa_cons (pe_str) (pa_cons (pv 6) pa_nil)))) pa_nil)))) pa_nil))), fun D σ H a nx => ?_⟩
  obtain ⟨d, f, L, NL, z1, z2, bk, s, ps, r1, r2, lw, ⟨l, b, pl, fl, rfl, hL, hNL, n1, n2, hB, hex⟩, hs, hn⟩ := a
  simp only [rd, rd2, rd3, rd4, rd5, List.getElem?_cons_zero, List.getElem?_cons_succ, Option.some.injEq, exists_eq_left', exists_eq_left, exists_and_left, exists_and_right, List.cons.injEq, V.str.injEq, V.int.injEq, V.bl.injEq, V.ref.injEq, V.ty.injEq, and_true, true_and, List.set_cons_zero, List.set_cons_succ, exists_const, exists_false, reduceCtorEq, ↓reduceIte, exists_eq, exists_eq', and_self, cxK, wipe, List.map_cons, List.map_nil, List.length_cons, List.length_nil, Nat.zero_add, Nat.reduceAdd, Int.cast_ofNat_Int, Int.reduceEq, Int.reduceLE, Int.reduceLT, decide_eq_true_eq, decide_true, decide_false, Bool.true_eq_false, Bool.false_eq_true, Bool.not_true, Bool.not_false]
  obtain ⟨dx, p, hb⟩ : ∃ dx fs, H bk = some (.ins (He.ga K "Book") dx fs) ∧ fs.lookup ("apply_all" : Str) = none := by
    obtain ⟨dx, p, kt, kn, ts, qv, gv, h1, _⟩ := id hB
    exact ⟨dx, _, h1, by rfl⟩
  refine ⟨dx, p, hb.1, hb.2, ?_⟩
  refine ⟨by rw [sizeLine_eq]; decide, fun p1 ip1 => ⟨by rw [sizeLine_eq]; decide, fun p2 ip2 => ⟨by rw [sizeLine_eq]; decide, fun p3 ip3 => ⟨by rw [sizeLine_eq]; decide, fun p4 ip4 => ⟨by rw [sizeLine_eq]; decide, fun p5 ip5 => ?_⟩⟩⟩⟩⟩
  have wp5 := same_upd (o := .lst [.ref p1, .ref p3, .ref p4]) ip5
  have wp4 := (same_upd (o := .tup [.str "rename", .str "yy", .str z2]) ip4).trans wp5
  have wp3 := (same_upd (o := .tup [.str "define", .str "yy", .ref p2]) ip3).trans wp4
  have wp2 := (same_upd (o := .tup []) ip2).trans wp3
  have wp1 := (same_upd (o := .tup [.str "drop", .str z2]) ip1).trans wp2
  have lo := lets_facts lw.pm.2.2
  have lm := mid_len f lw.pm.2.2 z1 lw.m1
  have pm : s.1.Perm (mid f z1 ++ [("zz" : Str)]) := hs ▸ srt_perm _
  have hsl : s.1.length = 12 := by rw [pm.length_eq, List.length_append, lm]; rfl
  have nd := names_nodup lw
  have nds : s.1.Nodup := pm.nodup_iff.mpr nd
  have mz2 : z2 ∈ s.1 := pm.mem_iff.mpr (List.mem_append_left _ (List.mem_filter.mpr ⟨lw.m2, by simpa using lw.ne.symm⟩))
  have ny : ("yy" : Str) ∉ s.1 := names_not lw pm (by decide) (by decide)
  have pf : (srt (s.1.filter fun y => decide (y ≠ z2))).Perm (s.1.filter fun y => decide (y ≠ z2)) := srt_perm _
  have pf2 : (srt (srt (s.1.filter fun y => decide (y ≠ z2)) ++ [("yy" : Str)])).Perm ((s.1.filter fun y => decide (y ≠ z2)) ++ [("yy" : Str)]) := (srt_perm _).trans (pf.append_right _)
  have hfl : (s.1.filter fun y => decide (y ≠ z2)).length = 11 := by
    have := (perm_filter nds mz2).length_eq
    rw [List.length_append, hsl] at this
    simpa using this
  have hb2 := back_perm nds mz2 ny
  refine ⟨bk, pl, fl, d, s, ps, [], p5, [.ref p1, .ref p3, .ref p4], [.drp z2, .dfn "yy" none, .ren "yy" z2], some (((Cm.ren "yy" z2).nk ((Cm.dfn "yy" none).nk ((Cm.drp z2).nk s.1))), ((Cm.ren "yy" z2).nb ((Cm.dfn "yy" none).nb ((Cm.drp z2).nb s.2)))), rfl, hB.same wp1, by omega, .of upd_same, ?_, ?_, (fun q => nomatch q), fun s'' e H2 fl' x2 hfl' hB2 => ?_⟩
  · exact ((CmsAt.nil.snoc (v := .ref p1) (c := .drp z2) ⟨p1, rfl, .of (wp2 _ _ upd_same)⟩).snoc (v := .ref p3) (c := .dfn "yy" none) ⟨p3, _, rfl, .of (wp4 _ _ upd_same), p2, [], rfl, .of (wp3 _ _ upd_same), rfl⟩).snoc (v := .ref p4) (c := .ren "yy" z2) ⟨p4, rfl, .of (wp5 _ _ upd_same)⟩
  · refine .step mz2 (fun q => q.elim) (.step ⟨by decide +kernel, fun q => ny (List.mem_filter.mp (pf.mem_iff.mp q)).1⟩ (fun q => by have q : (srt (s.1.filter fun y => decide (y ≠ z2))).length = 12 := q; rw [pf.length_eq, hfl] at q; cases q) (.step ⟨pf2.mem_iff.mpr (List.mem_append_right _ List.mem_cons_self), (lo.2.2 z2 lw.m2).1, fun q => ?_⟩ (fun q => q.elim) (.nil _)))
    rcases List.mem_append.mp (pf2.mem_iff.mp q) with q | q
    · have := (List.mem_filter.mp q).2
      simp at this
    · have q := List.mem_singleton.mp q
      have := (lo.2.2 z2 lw.m2).2.1
      rw [q] at this
      cases this
  · cases e
    exact nx _ _ ⟨d, f, L, NL, z1, z2, bk, _, _, r1, r2, lw, ⟨l, b, pl, fl', rfl, x2 _ _ (wp1 _ _ hL) n1, x2 _ _ (wp1 _ _ hNL) n2, (fun q => by rcases q with q | q | q; exact n1 (.inl q); exact n1 (.inr (.inl q)); exact ne_of_none (wp1 _ _ hL) hfl' q), (fun q => by rcases q with q | q | q; exact n2 (.inl q); exact n2 (.inr (.inl q)); exact ne_of_none (wp1 _ _ hNL) hfl' q), hB2, fun a q => nomatch q⟩, up_eq (srt_up _) (srt_up _) (hb2.trans (pm.trans (srt_perm _).symm)), by rw [List.length_append, hn]; rfl⟩
theorem r__law_same {P : Program} {w : World} {K : PySem.W.Frag} {mg : Str → Option Value} {base : Heap} (T : Tx w K mg) : FnR P w K mg base (L2.CX P w) 4 (He.ga K "_law_same") (sp_same K 2) := r_same T 2
theorem st13 (T : Tx w K mg) (hr : Room 40 (A.deeper (envOfC "law" (defScope (topS 131)) s0.heap.objs.size (He.ga K "law") (.ref c)))) :
    Stp (LX P w K mg base c A outer s0 H0 E) ((defBody (topS 131)).getD 12 (.Pass default)) (A11 K 3) (A11 K 3) := by
  refine ⟨_, (ps_if (pt_not (pt_val (pe_f (r__law_same (P := P) (w := w) (K := K) (base := base) T) T.g__law_same T.f__law_same.keep hr passL (pa_cons (pe_lst (pa_cons (pe_m0 (pe_pr (r_Book_parts (P := P) (w := w) (K := K) (base := base) T) T.c_Book T.p_Book_parts hr (pv 7)) (r_Parts_names (P := P) (w := w) (K := K) (base := base) T) T.c_Parts T.t_Parts_names hr passL) (pa_cons (pe_m0 (pv 7) (r_Book_history (P := P) (w := w) (K := K) (base := base) T) T.c_Book T.t_Book_history hr passL) (pa_cons (pe_callB (call_ownLen (r_Book__len_ (P := P) (w := w) (K := K) (base := base) T) T.l_Book hr) (by rfl) T.n_len boot_len (pa_cons (pv 7) pa_nil)) pa_nil)))) (pa_cons (pe_lst (pa_cons (pv 8) (pa_cons (pe_tup (pa_cons (pe_int) (pa_cons (pe_int) pa_nil))) (pa_cons (pe_int) pa_nil)))) pa_nil))))) (pss_one (ps_ret (pe_bl))) pss_nil), fun D σ H a nx => ?_⟩
  obtain ⟨d, f, L, NL, z1, z2, bk, s, ps, r1, r2, lw, ⟨l, b, pl, fl, rfl, hL, hNL, n1, n2, hB, hex⟩, hs, hn⟩ := a
  simp only [rd, rd2, rd3, rd4, rd5, List.getElem?_cons_zero, List.getElem?_cons_succ, Option.some.injEq, exists_eq_left', exists_eq_left, exists_and_left, exists_and_right, List.cons.injEq, V.str.injEq, V.int.injEq, V.bl.injEq, V.ref.injEq, V.ty.injEq, and_true, true_and, List.set_cons_zero, List.set_cons_succ, exists_const, exists_false, reduceCtorEq, ↓reduceIte, exists_eq, exists_eq', and_self, cxK, wipe, List.map_cons, List.map_nil, List.length_cons, List.length_nil, Nat.zero_add, Nat.reduceAdd, Int.cast_ofNat_Int, Int.reduceEq, Int.reduceLE, Int.reduceLT, decide_eq_true_eq, decide_true, decide_false, Bool.true_eq_false, Bool.false_eq_true, Bool.not_true, Bool.not_false]
  obtain ⟨dx, p, kt, kn, ts, qv, gv, h1, h2, h3, h4, h5, h6, h7, h8, h9, h10⟩ := id hB
  obtain ⟨a, dxp, kd, kn2, val, rfl, e1, e2, e3, e4⟩ := id h2
  refine ⟨⟨_, _, h1⟩, bk, dx, _, _, rfl, h1, rfl, a, rfl, _, _, e1, rfl, _, d, s.1, s.2, rfl, h2, fun p1 i1 => ?_⟩
  have t1 := same_upd (o := .lst (s.1.map V.str)) i1
  refine ⟨_, _, t1 _ _ h1, rfl, bk, pl, fl, d, s, ps, [], rfl, hB.same t1, fun p2 i2 => ?_⟩
  have t2 := t1.trans (same_upd (o := .tup [.int ps.length, .int ([] : List KS).length]) i2)
  have lm := mid_len f lw.pm.2.2 z1 lw.m1
  have hsl : s.1.length = 12 := by rw [hs, (srt_perm _).length_eq, List.length_append, lm]; rfl
  refine ⟨bk, _, _, rfl, t2 _ _ h1, bk, pl, fl, d, s, ps, [], rfl, hB.same t2, s.1.length, rfl, by rw [hsl, sizeLine_eq]; decide, ?_⟩
  refine ⟨by rw [sizeLine_eq]; decide, fun p3 i3 => ⟨by rw [sizeLine_eq]; decide, fun p4 i4 => ⟨by rw [sizeLine_eq]; decide, fun p5 i5 => ?_⟩⟩⟩
  have w5 := same_upd (o := .lst [.ref NL, .ref p4, .int 12]) i5
  have w4 := (same_upd (o := .tup [.int 3, .int 0]) i4).trans w5
  have w3 := (same_upd (o := .lst [.ref p1, .ref p2, .int s.1.length]) i3).trans w4
  have w2 := (same_upd (o := .tup [.int ps.length, .int ([] : List KS).length]) i2).trans w3
  have w1 := t1.trans w2
  refine ⟨.ref p3, .ref p5, rfl, .inr ⟨p3, p5, _, _, rfl, rfl, .inl ⟨w4 _ _ upd_same, upd_same⟩, rfl, (show (3 : Nat) ≤ 1000 by decide), fun i u v hu hv => ?_⟩, fun H' s' => ⟨true, rfl, nx _ _ ⟨d, f, L, NL, z1, z2, bk, s, ps, r1, r2, lw, ⟨l, b, pl, fl, rfl, s' _ _ (w1 _ _ hL), s' _ _ (w1 _ _ hNL), n1, n2, hB.same (w1.trans s'), hex⟩, hs, hn⟩⟩⟩
  match i, hu, hv with
  | 0, hu, hv =>
    cases hu; cases hv
    exact .inr ⟨p1, NL, _, _, rfl, rfl, .inl ⟨w2 _ _ upd_same, w1 _ _ hNL⟩, by rw [hs], by rw [List.length_map, hsl]; decide, fun j u v hu hv => by
      rw [hs, hv] at hu
      cases hu
      rw [List.getElem?_map] at hv
      cases q : (srt (mid f z1 ++ [("zz" : Str)]))[j]? with
      | none => rw [q] at hv; cases hv
      | some y => rw [q] at hv; cases hv; exact ⟨rfl, .inl ⟨y, rfl⟩⟩⟩
  | 1, hu, hv =>
    cases hu; cases hv
    exact .inr ⟨p2, p4, _, _, rfl, rfl, .inr ⟨.of (w3 _ _ upd_same), .of (w5 _ _ upd_same)⟩, rfl, (show (2 : Nat) ≤ 1000 by decide), fun j u v hu hv => by
      rw [hn] at hu
      match j, hu, hv with
      | 0, hu, hv => cases hu; cases hv; exact ⟨rfl, .inr ⟨_, rfl⟩⟩
      | 1, hu, hv => cases hu; cases hv; exact ⟨rfl, .inr ⟨_, rfl⟩⟩⟩
  | 2, hu, hv =>
    cases hu; cases hv
    exact .inl ⟨by rw [hsl] <;> rfl, .inr ⟨_, rfl⟩⟩
def A14 (K : PySem.W.Frag) : L2.St → Hp → Prop := fun σ H => ∃ d f L NL z1 z2 bk s ps r1 r2 k, Lw d f z1 z2 ∧ BN K d f L NL z1 z2 bk s ps [] [r1, r2, some (.ref k), none, none, none, none, none, none] [] σ H ∧ s.1 = srt (mid f z1 ++ [("zz" : Str)]) ∧ ps.length = 3 ∧ DeskAt K H k bk ∧ ¬ (k = bk)
theorem st14 (T : Tx w K mg) (hr : Room 40 (A.deeper (envOfC "law" (defScope (topS 131)) s0.heap.objs.size (He.ga K "law") (.ref c)))) :
    Stp (LX P w K mg base c A outer s0 H0 E) ((defBody (topS 131)).getD 13 (.Pass default)) (A11 K 3) (A14 K) := by
  obtain ⟨fd, G, mv, B⟩ := ok_desk (P := P) (base := base) T
  refine ⟨_, ps_set (i := 11) sc_law.nd rfl (Or.inr rfl) (L2.pe_makeK0 T.m_Desk G (hr.mono (by decide)) (by rfl) T.g_Desk B passL (pk_cons (pv 7) pk_nil)), fun D σ H a nx => ?_⟩
  obtain ⟨d, f, L, NL, z1, z2, bk, s, ps, r1, r2, lw, ⟨l, b, pl, fl, rfl, hL, hNL, n1, n2, hB, hex⟩, hs, hn⟩ := a
  simp only [rd, rd2, rd3, rd4, rd5, List.getElem?_cons_zero, List.getElem?_cons_succ, Option.some.injEq, exists_eq_left', exists_eq_left, exists_and_left, exists_and_right, List.cons.injEq, V.str.injEq, V.int.injEq, V.bl.injEq, V.ref.injEq, V.ty.injEq, and_true, true_and, List.set_cons_zero, List.set_cons_succ, exists_const, exists_false, reduceCtorEq, ↓reduceIte, exists_eq, exists_eq', and_self, cxK, wipe, List.map_cons, List.map_nil, List.length_cons, List.length_nil, Nat.zero_add, Nat.reduceAdd, Int.cast_ofNat_Int, Int.reduceEq, Int.reduceLE, Int.reduceLT, decide_eq_true_eq, decide_true, decide_false, Bool.true_eq_false, Bool.false_eq_true, Bool.not_true, Bool.not_false]
  refine ⟨_, rfl, rfl, rfl, fun k dx hk hdx ne => ?_⟩
  have sm := same_made (C := He.ga K "Desk") hk hdx
  refine ⟨k, dx, bk, rfl, upd_same, rfl, ?_⟩
  have t : Same H (upd (upd (upd H dx (.own k)) k (.ins (He.ga K "Desk") dx [])) k (.ins (He.ga K "Desk") dx [("shelf", .ref bk)])) := same_sx hk sm SX.upd
  exact nx _ _ ⟨d, f, L, NL, z1, z2, bk, s, ps, r1, r2, k, lw, ⟨l, b, pl, fl, rfl, t _ _ hL, t _ _ hNL, n1, n2, hB.same t, hex⟩, hs, hn, ⟨dx, upd_same⟩, fun q => hB.fresh hk (.inl q)⟩
end
end Sf

/-! ### law: the loop over the batches -/
namespace Sf
open PySem PySem.Spec PyProof.Rows L2
/-- all but the tables of code objects -/
theorem np_tbl {H : Hp} {x : Addr} {ps : Array Value} (h : H x = some (.tbl ps)) : NP H x :=
  ⟨(fun xs r => by
    rcases r with e | ⟨o, e⟩ <;> (rw [h] at e; cases e)), (fun kvs e => by rw [h] at e; cases e), fun C dx fs e => by rw [h] at e; cases e⟩
def IsT (H : Hp) (x : Addr) : Prop := ∃ ps, H x = some (.tbl ps)
theorem ext_sp {H H' : Hp} (e : LamX.ExtN H H') : SP (IsT H) H H' := fun a o h n => e a o h fun ps q => n ⟨ps, q ▸ h⟩
theorem np_isT {H : Hp} : ∀ x, IsT H x → NP H x := fun x h => h.elim fun _ e => np_tbl e
theorem BookAt.ext {K : PySem.W.Frag} {H H' : Hp} {bk pl fl : Addr} {d : Int} {s : KS} {qs gs : List KS} (e : LamX.ExtN H H') (h : BookAt K H bk pl fl d s qs gs) : BookAt K H' bk pl fl d s qs gs := by
  obtain ⟨dx, p, kt, kn, ts, qv, gv, h1, h2, h3, h4, h5, h6, h7, h8, h9, h10⟩ := h
  have m := ext_sp e
  have np := np_isT (H := H)
  exact ⟨dx, p, kt, kn, ts, qv, gv, e _ _ h1 (by intro ps z; cases z), h2.sp m np, e _ _ h3 (by intro ps z; cases z), h4.sp m np, e _ _ h5 (by intro ps z; cases z), h6.sp m np, h7, m.tup np h8, m.tup np h9, h10⟩
theorem BlkAt.ext {K : PySem.W.Frag} {H H' : Hp} {v : V} {b : Option Int} (e : LamX.ExtN H H') (h : BlkAt K H v b) : BlkAt K H' v b := h.sp (ext_sp e) np_isT
theorem CmAt.ext {K : PySem.W.Frag} {H H' : Hp} {v : V} {c : Cm} (e : LamX.ExtN H H') (h : CmAt K H v c) : CmAt K H' v c := by
  have m := ext_sp e
  have np := np_isT (H := H)
  cases c with
  | dfn z b => obtain ⟨a, u, e1, h1, h2⟩ := h; exact ⟨a, u, e1, m.tup np h1, h2.sp m np⟩
  | drp z => obtain ⟨a, e1, h1⟩ := h; exact ⟨a, e1, m.tup np h1⟩
  | ren z n' => obtain ⟨a, e1, h1⟩ := h; exact ⟨a, e1, m.tup np h1⟩
theorem BatchAt.ext {K : PySem.W.Frag} {H H' : Hp} {b : Addr} {cs : List Cm} (e : LamX.ExtN H H') (h : BatchAt K H b cs) : BatchAt K H' b cs := by
  obtain ⟨vs, h1, h2⟩ := h
  exact ⟨vs, e _ _ h1 (by intro ps z; cases z), h2.1, fun i v c hv hc => (h2.2 i v c hv hc).ext e⟩
/-- the three batches find the book full -/
theorem full_facts {d : Int} {f : Nat} {z1 z2 : Str} (lw : Lw d f z1 z2) {s : KS} (hs : s.1 = srt (mid f z1 ++ [("zz" : Str)])) : s.1.length = 12 ∧ s.1.Nodup ∧ z2 ∈ s.1 ∧ ("zz" : Str) ∈ s.1 ∧ ("yy" : Str) ∉ s.1 ∧ ("xx" : Str) ∉ s.1 := by
  have lm := mid_len f lw.pm.2.2 z1 lw.m1
  have pm : s.1.Perm (mid f z1 ++ [("zz" : Str)]) := hs ▸ srt_perm _
  refine ⟨by rw [pm.length_eq, List.length_append, lm]; rfl, pm.nodup_iff.mpr (names_nodup lw), pm.mem_iff.mpr (List.mem_append_left _ (List.mem_filter.mpr ⟨lw.m2, by simpa using lw.ne.symm⟩)), pm.mem_iff.mpr (List.mem_append_right _ List.mem_cons_self), names_not lw pm (by decide) (by decide), names_not lw pm (by decide) (by decide)⟩
theorem rn_cs1 {d : Int} {f : Nat} {z1 z2 : Str} (lw : Lw d f z1 z2) {s : KS} (hs : s.1 = srt (mid f z1 ++ [("zz" : Str)])) : Rn (cs1 z2) s none := by
  obtain ⟨h1, h2, h3, h4, h5, h6⟩ := full_facts lw hs
  exact .full ⟨by decide +kernel, h5⟩ h1
theorem rn_cs2 {d : Int} {f : Nat} {z1 z2 : Str} (lw : Lw d f z1 z2) {s : KS} (hs : s.1 = srt (mid f z1 ++ [("zz" : Str)])) : Rn (cs2 z2) s none := by
  obtain ⟨h1, h2, h3, h4, h5, h6⟩ := full_facts lw hs
  have pf : (srt (s.1.filter fun y => decide (y ≠ z2))).Perm (s.1.filter fun y => decide (y ≠ z2)) := srt_perm _
  have hfl : (s.1.filter fun y => decide (y ≠ z2)).length = 11 := by
    have := (perm_filter h2 h3).length_eq
    rw [List.length_append, h1] at this
    simpa using this
  have pf2 : (srt (srt (s.1.filter fun y => decide (y ≠ z2)) ++ [("yy" : Str)])).Perm ((s.1.filter fun y => decide (y ≠ z2)) ++ [("yy" : Str)]) := (srt_perm _).trans (pf.append_right _)
  refine .step h3 (fun q => q.elim) (.step ⟨by decide +kernel, fun q => h5 (List.mem_filter.mp (pf.mem_iff.mp q)).1⟩ (fun q => by have q : (srt (s.1.filter fun y => decide (y ≠ z2))).length = 12 := q; rw [pf.length_eq, hfl] at q; cases q) (.full ⟨by decide +kernel, fun q => ?_⟩ ?_))
  · rcases List.mem_append.mp (pf2.mem_iff.mp q) with q | q
    · exact h6 (List.mem_filter.mp q).1
    · exact absurd (List.mem_singleton.mp q) (by decide)
  · show (srt (srt (s.1.filter fun y => decide (y ≠ z2)) ++ [("yy" : Str)])).length = 12
    rw [pf2.length_eq, List.length_append, hfl] <;> rfl
theorem rn_cs3 {d : Int} {f : Nat} {z1 z2 : Str} (lw : Lw d f z1 z2) {s : KS} (hs : s.1 = srt (mid f z1 ++ [("zz" : Str)])) : Rn cs3 s none := by
  obtain ⟨h1, h2, h3, h4, h5, h6⟩ := full_facts lw hs
  refine .step ⟨h4, by decide +kernel, h5⟩ (fun q => q.elim) (.full ⟨by decide +kernel, fun q => ?_⟩ ?_)
  · obtain ⟨x, hx, e⟩ := List.mem_map.mp ((srt_perm _).mem_iff.mp q)
    by_cases hz : x = "zz"
    · rw [if_pos hz] at e
      exact absurd e (by decide)
    · rw [if_neg hz] at e
      exact hz e
  · show (srt (s.1.map fun y => if y = ("zz" : Str) then ("yy" : Str) else y)).length = 12
    rw [(srt_perm _).length_eq, List.length_map]
    exact h1
section
variable {P : Program} {w : World} {K : PySem.W.Frag} {mg : Str → Option Value} {base : Heap} {c : Addr} {A : Around} {outer : List Env} {s0 : Shared} {H0 : Hp} {E : XK} {Pt : Addr} {ns : List Int}
def lq : Str := (envOfC "law" (defScope (topS 131)) 0 0 .none).qual ++ "<lambda>"
theorem st11 (T : Tx w K mg) (TB : LamX.TabB base mg c Pt) (hr : Room 40 (A.deeper (envOfC "law" (defScope (topS 131)) s0.heap.objs.size (He.ga K "law") (.ref c)))) :
    Stp (LX P w K mg base c A outer s0 H0 E) ((defBody (topS 131)).getD 10 (.Pass default)) (A10 K Pt) (A11 K 2) := by
  obtain ⟨fd, F⟩ := id T.f__law_refused
  have hBd := bindsOk (ps := ["_law_ask"]) F (fun _ _ _ _ _ _ us hl => match us, hl with | [_], _ => rfl)
  obtain ⟨oc, od, dV, kV, doc, pm, an, cdv, ct, osl, rfl, lk, hcd, _, _⟩ := F.ex
  refine ⟨_, (ps_for (passes_of rfl) rfl (pi_list (pv 9)) (pg_name (i := 10) sc_law.nd rfl (Or.inr rfl)) (pss_cons (ps_if (pt_cmpR (r := rNeD K) (op_neD hr.units)
    (LamX.pe_lamcall (T := [(Pt, lq)]) (TT := TTref K) (k := 30) (Ng := sc_refN) (t := fun E => tMth (He.ga K "Book") "apply_all" (sp_Book_apply_all K) E (tVar 7) (tCons (tVar 10) tNil)) (by rfl) T.g__law_refused T.f__law_refused.keep lk hcd hBd sc_ref rfl (Or.inl rfl) (ref_gives T) TB rfl List.mem_cons_self (fun p hp _ => by rw [List.mem_singleton.mp hp]; rfl) (hr.mono (by decide)) (LamX.lamS_by (sc := defScope (topS 131)) (by decide +kernel)) (by rfl) (fun _ _ _ _ _ => by rfl)
      (fun A outer s H E f c' hr2 => pe_m (pv 7) (r_Book_apply_all (P := P) (w := w) (K := K) (base := base) T) T.c_Book T.t_Book_apply_all hr2 (passes_call (takes_of rfl rfl rfl rfl) (fun _ _ _ _ h => h)) (pa_cons (pv 10) pa_nil)))
    (pe_tup (pa_cons (pe_str) (pa_cons (pe_int) pa_nil))) (nomark _)) (pss_one (ps_ret (pe_bl))) pss_nil) (pss_one (ps_if (pt_not (pt_val (pe_f (r__law_same (P := P) (w := w) (K := K) (base := base) T) T.g__law_same T.f__law_same.keep hr passL (pa_cons (pe_lst (pa_cons (pe_m0 (pe_pr (r_Book_parts (P := P) (w := w) (K := K) (base := base) T) T.c_Book T.p_Book_parts hr (pv 7)) (r_Parts_names (P := P) (w := w) (K := K) (base := base) T) T.c_Parts T.t_Parts_names hr passL) (pa_cons (pe_m0 (pv 7) (r_Book_history (P := P) (w := w) (K := K) (base := base) T) T.c_Book T.t_Book_history hr passL) (pa_cons (pe_callB (call_ownLen (r_Book__len_ (P := P) (w := w) (K := K) (base := base) T) T.l_Book hr) (by rfl) T.n_len boot_len (pa_cons (pv 7) pa_nil)) pa_nil)))) (pa_cons (pe_lst (pa_cons (pv 8) (pa_cons (pe_tup (pa_cons (pe_int) (pa_cons (pe_int) pa_nil))) (pa_cons (pe_int) pa_nil)))) pa_nil))))) (pss_one (ps_ret (pe_bl))) pss_nil)))), fun D σ H a nx => ?_⟩
  obtain ⟨d, f, L, NL, z1, z2, bk, s, ps, Bt, b1, b2, b3, lw, hP, ⟨l, b, pl, fl, rfl, hL, hNL, n1, n2, hB, hex⟩, hs, hn, hBt, hb1, hb2, hb3⟩ := a
  simp only [rd, rd2, rd3, rd4, rd5, List.getElem?_cons_zero, List.getElem?_cons_succ, Option.some.injEq, exists_eq_left', exists_eq_left, exists_and_left, exists_and_right, List.cons.injEq, V.str.injEq, V.int.injEq, V.bl.injEq, V.ref.injEq, V.ty.injEq, and_true, true_and, List.set_cons_zero, List.set_cons_succ, exists_const, exists_false, reduceCtorEq, ↓reduceIte, exists_eq, exists_eq', and_self, cxK, wipe, List.map_cons, List.map_nil, List.length_cons, List.length_nil, Nat.zero_add, Nat.reduceAdd, Int.cast_ofNat_Int, Int.reduceEq, Int.reduceLE, Int.reduceLT, decide_eq_true_eq, decide_true, decide_false, Bool.true_eq_false, Bool.false_eq_true, Bool.not_true, Bool.not_false]
  refine ⟨⟨_, .of hBt⟩, ?_⟩
  refine forK (walk_list (xs := [.ref b1, .ref b2, .ref b3])) (fun i σ' H' => LamX.ExtN H H' ∧ LamX.Tabs [(Pt, lq)] H' ∧ ∃ x, σ' = [some l, some b, some (.int d), some (.int f), some (.ref L), some (.str z1), some (.str z2), some (.ref bk), some (.ref NL), some (.ref Bt), x, none, none, none, none, none, none, none]) ⟨.refl _, fun p hp => by rw [List.mem_singleton.mp hp]; exact LamX.TabS.nil hP, _, rfl⟩ (fun i σ H' _ e => .of (e.1 _ _ hBt (by intro ps z; cases z))) (fun i v σ H1 H2 hi e y => ?_) fun σ' H' e => ?_
  · obtain ⟨e1, e2, x, rfl⟩ := e
    obtain ⟨rfl, hx⟩ := y
    obtain ⟨ba, cs, rfl, hcs, hR⟩ : ∃ ba cs, v = .ref ba ∧ BatchAt K H ba cs ∧ Rn cs s none := by
      match i, hx with
      | 0, hx => cases hx; exact ⟨b1, _, rfl, hb1, rn_cs1 lw hs⟩
      | 1, hx => cases hx; exact ⟨b2, _, rfl, hb2, rn_cs2 lw hs⟩
      | 2, hx => cases hx; exact ⟨b3, _, rfl, hb3, rn_cs3 lw hs⟩
    simp only [rd, rd2, rd3, rd4, rd5, List.getElem?_cons_zero, List.getElem?_cons_succ, Option.some.injEq, exists_eq_left', exists_eq_left, exists_and_left, exists_and_right, List.cons.injEq, V.str.injEq, V.int.injEq, V.bl.injEq, V.ref.injEq, V.ty.injEq, and_true, true_and, List.set_cons_zero, List.set_cons_succ, exists_const, exists_false, reduceCtorEq, ↓reduceIte, exists_eq, exists_eq', and_self, cxK, wipe, List.map_cons, List.map_nil, List.length_cons, List.length_nil, Nat.zero_add, Nat.reduceAdd, Int.cast_ofNat_Int, Int.reduceEq, Int.reduceLE, Int.reduceLT, decide_eq_true_eq, decide_true, decide_false, Bool.true_eq_false, Bool.false_eq_true, Bool.not_true, Bool.not_false]
    refine ⟨e2, fun H2 eN T2 p hp => ?_⟩
    simp only [rd, rd2, rd3, rd4, rd5, List.getElem?_cons_zero, List.getElem?_cons_succ, Option.some.injEq, exists_eq_left', exists_eq_left, exists_and_left, exists_and_right, List.cons.injEq, V.str.injEq, V.int.injEq, V.bl.injEq, V.ref.injEq, V.ty.injEq, and_true, true_and, List.set_cons_zero, List.set_cons_succ, exists_const, exists_false, reduceCtorEq, ↓reduceIte, exists_eq, exists_eq', and_self, cxK, wipe, List.map_cons, List.map_nil, List.length_cons, List.length_nil, Nat.zero_add, Nat.reduceAdd, Int.cast_ofNat_Int, Int.reduceEq, Int.reduceLE, Int.reduceLT, decide_eq_true_eq, decide_true, decide_false, Bool.true_eq_false, Bool.false_eq_true, Bool.not_true, Bool.not_false]
    have hP2 : ∀ ps, H2 p ≠ some (.tbl ps) := fun ps q => by rw [hp] at q; cases q
    have sp := same_upd (o := .tup [.str "", .non]) hp
    have e3 : LamX.ExtN H (upd H2 p (.tup [.str "", .non])) := (e1.trans eN).trans (.of sp)
    obtain ⟨dx, fs, hb, hfs⟩ : ∃ dx fs, H bk = some (.ins (He.ga K "Book") dx fs) ∧ fs.lookup ("apply_all" : Str) = none := by
      obtain ⟨dx, p, kt, kn, ts, qv, gv, h1, _⟩ := id hB
      exact ⟨dx, _, h1, by rfl⟩
    obtain ⟨bvs, hbv, hbc⟩ := hcs.ext e3
    refine ⟨dx, fs, e3 _ _ hb (by intro ps z; cases z), hfs, bk, pl, fl, d, s, ps, [], ba, bvs, cs, none, rfl, hB.ext e3, by omega, .of hbv, hbc, hR, fun _ H3 dd s3 hdd => ?_, fun s' q => nomatch q⟩
    refine ⟨rfl, dd, rfl, hdd, fun t ht => ⟨by rw [sizeLine_eq]; decide, fun t2 ht2 => ⟨.tuple [.str "CapacityExceeded", .int 12], .tuple [.str "CapacityExceeded", .int 12], ?_, ?_, by decide +kernel, by decide +kernel, false, rfl, ?_⟩⟩⟩
    · exact .tup (.of (same_upd ht2 _ _ upd_same)) (.cons (.str _) (.cons (.int _) .nil))
    · exact .tup (.of upd_same) (.cons (.str _) (.cons (.int _) .nil))
    rw [if_neg Bool.false_ne_true]
    have e4 : LamX.ExtN H _ := e3.trans (.of (s3.trans ((same_upd (o := .tup [.str "CapacityExceeded", .int 12]) ht).trans (same_upd (o := .tup [.str "CapacityExceeded", .int 12]) ht2))))
    have T4 : LamX.Tabs [(Pt, lq)] _ := T2.ext (sp.trans (s3.trans ((same_upd (o := .tup [.str "CapacityExceeded", .int 12]) ht).trans (same_upd (o := .tup [.str "CapacityExceeded", .int 12]) ht2))))
    generalize upd (upd H3 t (.tup [.str "CapacityExceeded", .int 12])) t2 (.tup [.str "CapacityExceeded", .int 12]) = H5 at e4 T4 ⊢
    have hB5 := hB.ext e4
    have hNL5 := e4 _ _ hNL (by intro ps z; cases z)
    obtain ⟨dx, p, kt, kn, ts, qv, gv, h1, h2, h3, h4, h5, h6, h7, h8, h9, h10⟩ := id hB5
    obtain ⟨a, dxp, kd, kn2, val, rfl, g1, g2, g3, g4⟩ := id h2
    refine ⟨⟨_, _, h1⟩, bk, dx, _, _, rfl, h1, rfl, a, rfl, _, _, g1, rfl, _, d, s.1, s.2, rfl, h2, fun p1 i1 => ?_⟩
    have t1 := same_upd (o := .lst (s.1.map V.str)) i1
    refine ⟨_, _, t1 _ _ h1, rfl, bk, pl, fl, d, s, ps, [], rfl, hB5.same t1, fun p2 i2 => ?_⟩
    have t2 := t1.trans (same_upd (o := .tup [.int ps.length, .int ([] : List KS).length]) i2)
    have lm := mid_len f lw.pm.2.2 z1 lw.m1
    have hsl : s.1.length = 12 := by rw [hs, (srt_perm _).length_eq, List.length_append, lm]; rfl
    refine ⟨bk, _, _, rfl, t2 _ _ h1, bk, pl, fl, d, s, ps, [], rfl, hB5.same t2, s.1.length, rfl, by rw [hsl, sizeLine_eq]; decide, ?_⟩
    refine ⟨by rw [sizeLine_eq]; decide, fun p3 i3 => ⟨by rw [sizeLine_eq]; decide, fun p4 i4 => ⟨by rw [sizeLine_eq]; decide, fun p5 i5 => ?_⟩⟩⟩
    have w5 := same_upd (o := .lst [.ref NL, .ref p4, .int 12]) i5
    have w4 := (same_upd (o := .tup [.int 2, .int 0]) i4).trans w5
    have w3 := (same_upd (o := .lst [.ref p1, .ref p2, .int s.1.length]) i3).trans w4
    have w2 := (same_upd (o := .tup [.int ps.length, .int ([] : List KS).length]) i2).trans w3
    have w1 := t1.trans w2
    refine ⟨.ref p3, .ref p5, rfl, .inr ⟨p3, p5, _, _, rfl, rfl, .inl ⟨w4 _ _ upd_same, upd_same⟩, rfl, (show (3 : Nat) ≤ 1000 by decide), fun i u v hu hv => ?_⟩, fun H' s' => ⟨true, rfl, ⟨e4.trans (.of (w1.trans s')), T4.ext (w1.trans s')⟩⟩⟩
    match i, hu, hv with
    | 0, hu, hv =>
      cases hu; cases hv
      exact .inr ⟨p1, NL, _, _, rfl, rfl, .inl ⟨w2 _ _ upd_same, w1 _ _ hNL5⟩, by rw [hs], by rw [List.length_map, hsl]; decide, fun j u v hu hv => by
        rw [hs, hv] at hu
        cases hu
        rw [List.getElem?_map] at hv
        cases q : (srt (mid f z1 ++ [("zz" : Str)]))[j]? with
        | none => rw [q] at hv; cases hv
        | some y => rw [q] at hv; cases hv; exact ⟨rfl, .inl ⟨y, rfl⟩⟩⟩
    | 1, hu, hv =>
      cases hu; cases hv
      exact .inr ⟨p2, p4, _, _, rfl, rfl, .inr ⟨.of (w3 _ _ upd_same), .of (w5 _ _ upd_same)⟩, rfl, (show (2 : Nat) ≤ 1000 by decide), fun j u v hu hv => by
        rw [hn] at hu
        match j, hu, hv with
        | 0, hu, hv => cases hu; cases hv; exact ⟨rfl, .inr ⟨_, rfl⟩⟩
        | 1, hu, hv => cases hu; cases hv; exact ⟨rfl, .inr ⟨_, rfl⟩⟩⟩
    | 2, hu, hv =>
      cases hu; cases hv
      exact .inl ⟨by rw [hsl] <;> rfl, .inr ⟨_, rfl⟩⟩
  · obtain ⟨e1, e2, x, rfl⟩ := e
    exact nx _ _ ⟨d, f, L, NL, z1, z2, bk, s, ps, some (.ref Bt), x, lw, ⟨l, b, pl, fl, rfl, e1 _ _ hL (by intro ps z; cases z), e1 _ _ hNL (by intro ps z; cases z), n1, n2, hB.ext e1, fun a q => nomatch q⟩, hs, hn⟩
end
end Sf

/-! ### law: the desk's lines -/
namespace Sf
open PySem PySem.Spec PyProof.Rows L2
abbrev DS : Type := KS × List KS × List KS
def DK (K : PySem.W.Frag) (H : Hp) (d : Int) (k bk : Addr) (st : DS) (M : List (Addr × HO)) : Prop :=
  ∃ pl fl, BookAt K H bk pl fl d st.1 st.2.1 st.2.2 ∧ DeskAt K H k bk ∧ ¬ (k = bk) ∧ (M.map (·.1)).Nodup ∧ ∀ m ∈ M, H m.1 = some m.2 ∧ ¬ (m.1 = bk ∨ m.1 = pl ∨ m.1 = fl)
section
variable {K : PySem.W.Frag} {H H' : Hp} {d : Int} {k bk : Addr} {st st' : DS} {M : List (Addr × HO)}
theorem DK.desk (h : DK K H d k bk st M) : DeskAt K H k bk := by
  obtain ⟨pl, fl, h1, h2, h3⟩ := h
  exact h2
theorem DK.get (h : DK K H d k bk st M) {m : Addr × HO} (hm : m ∈ M) : H m.1 = some m.2 := by
  obtain ⟨pl, fl, h1, h2, h3, h4, h5⟩ := h
  exact (h5 m hm).1
theorem DK.same (s : Same H H') (h : DK K H d k bk st M) : DK K H' d k bk st M := by
  obtain ⟨pl, fl, h1, ⟨dx, h2⟩, h3, h4, h5⟩ := h
  exact ⟨pl, fl, h1.same s, ⟨dx, s _ _ h2⟩, h3, h4, fun m hm => ⟨s _ _ (h5 m hm).1, (h5 m hm).2⟩⟩
theorem DK.new {p : Addr} {o : HO} (hp : H p = none) (h : DK K H d k bk st M) : DK K (upd H p o) d k bk st ((p, o) :: M) := by
  obtain ⟨pl, fl, h1, ⟨dx, h2⟩, h3, h4, h5⟩ := h
  have s := same_upd (o := o) hp
  refine ⟨pl, fl, h1.same s, ⟨dx, s _ _ h2⟩, h3, List.nodup_cons.mpr ⟨fun q => ?_, h4⟩, fun m hm => ?_⟩
  · obtain ⟨m, hm, e⟩ := List.mem_map.mp q
    exact ne_of_none (h5 m hm).1 hp e
  · rcases List.mem_cons.mp hm with rfl | hm
    · exact ⟨upd_same, h1.fresh hp⟩
    · exact ⟨s _ _ (h5 m hm).1, (h5 m hm).2⟩
theorem DK.drop {m : Addr × HO} (h : DK K H d k bk st (m :: M)) : DK K H d k bk st M := by
  obtain ⟨pl, fl, h1, h2, h3, h4, h5⟩ := h
  exact ⟨pl, fl, h1, h2, h3, (List.nodup_cons.mp h4).2, fun m hm => h5 m (List.mem_cons_of_mem _ hm)⟩
theorem DK.put {D : Addr} {xs ys : List V} (h : DK K H d k bk st ((D, .lst xs) :: M)) : DK K (upd H D (.lst ys)) d k bk st ((D, .lst ys) :: M) := by
  obtain ⟨pl, fl, h1, ⟨dx, h2⟩, h3, h4, h5⟩ := h
  obtain ⟨hD, nD⟩ := h5 _ List.mem_cons_self
  have kD : k ≠ D := ne_of h2 hD (by intro z; cases z)
  refine ⟨pl, fl, BookAt.sx1 SX.upd nD hD h1, ⟨dx, by rw [upd_ne kD]; exact h2⟩, h3, h4, fun m hm => ?_⟩
  rcases List.mem_cons.mp hm with rfl | hm
  · exact ⟨upd_same, nD⟩
  · have n : m.1 ≠ D := fun q => (List.nodup_cons.mp h4).1 (List.mem_map.mpr ⟨m, hm, q⟩)
    exact ⟨by rw [upd_ne n]; exact (h5 m (List.mem_cons_of_mem _ hm)).1, (h5 m (List.mem_cons_of_mem _ hm)).2⟩
/-- a line, its answer, what it makes of the book -/
inductive Ask : Str → Str → DS → DS → Prop where
  | full {z rest line : Str} {c : Nat} {s : KS} {ps fs : List KS} (h : LD z rest line c) (o : (Cm.dfn z (some (if c = 49 then 1 else 2))).ok s.1) (l : s.1.length = 12) : Ask line "error CapacityExceeded" (s, ps, fs) (s, ps, fs)
  | dfn {z rest line : Str} {c : Nat} {s : KS} {ps fs : List KS} (h : LD z rest line c) (o : (Cm.dfn z (some (if c = 49 then 1 else 2))).ok s.1) (l : s.1.length ≠ 12) : Ask line "ok" (s, ps, fs) (((Cm.dfn z (some (if c = 49 then 1 else 2))).nk s.1, (Cm.dfn z (some (if c = 49 then 1 else 2))).nb s.2), ps ++ [s], [])
  | ren {s : KS} {ps fs : List KS} (o : (Cm.ren "zz" "q").ok s.1) : Ask "rename zz q" "ok" (s, ps, fs) (((Cm.ren "zz" "q").nk s.1, (Cm.ren "zz" "q").nb s.2), ps ++ [s], [])
  | drp {s : KS} {ps fs : List KS} (o : (Cm.drp "q").ok s.1) : Ask "drop q" "ok" (s, ps, fs) (((Cm.drp "q").nk s.1, (Cm.drp "q").nb s.2), ps ++ [s], [])
  | total {n : Int} {s : KS} {ps fs : List KS} (m : ("zz" : Str) ∈ s.1) (e : s.2 "zz" = some n) (h : n = 1 ∨ n = 2) : Ask "total zz" (toString n) (s, ps, fs) (s, ps, fs)
  | undo {s s0 : KS} {ps fs : List KS} : Ask "undo" "ok" (s, ps ++ [s0], fs) (s0, ps, fs ++ [s])
  | names {s : KS} {ps fs : List KS} (h : s.1 ≠ []) : Ask "names" (Txt.join " " s.1) (s, ps, fs) (s, ps, fs)
inductive Asks : List (Str × Str) → DS → DS → Prop where
  | nil (a : DS) : Asks [] a a
  | cons {z y : Str} {xs : List (Str × Str)} {a b c : DS} (h : Ask z y a b) (l1 : a.2.1.length < 1000) (l2 : a.2.2.length < 1000) (r : Asks xs b c) : Asks ((z, y) :: xs) a c
theorem ask_ok {line out : Str} {Q : VK} {E : XK} (a : Ask line out st st') (h : DK K H d k bk st M) (l1 : st.2.1.length < 1000) (l2 : st.2.2.length < 1000) (hq : ∀ H', DK K H' d k bk st' M → Q (.str out) H') : sp_Desk_ask K [.ref k, .str line] H Q E := by
  obtain ⟨pl, fl, hB, ⟨dx, hD⟩, nk, nd, hm⟩ := id h
  have nb : ¬ (k = bk ∨ k = pl ∨ k = fl) := by
    obtain ⟨dx2, p, kt, kn, ts, qv, gv, h1, h2, h3, h4, h5, h6⟩ := id hB
    rintro (e | e | e)
    · exact nk e
    · rw [e, h3] at hD; cases hD
    · rw [e, h5] at hD; cases hD
  have fin : ∀ {H' fl' s' ps' fs'}, S3 bk pl fl H H' → H fl' = none → BookAt K H' bk pl fl' d s' ps' fs' → DK K H' d k bk (s', ps', fs') M := fun {H' fl' s' ps' fs'} e1 e2 e3 =>
    ⟨pl, fl', e3, ⟨dx, e1 _ _ hD nb⟩, nk, nd, fun m i => ⟨e1 _ _ (hm m i).1 (hm m i).2, fun q => by
      rcases q with q | q | q
      · exact (hm m i).2 (.inl q)
      · exact (hm m i).2 (.inr (.inl q))
      · exact ne_of_none (hm m i).1 e2 q⟩⟩
  have fin2 : ∀ {H' s' ps' fs'}, S3 bk pl fl H H' → BookAt K H' bk pl fl d s' ps' fs' → DK K H' d k bk (s', ps', fs') M := fun {H' s' ps' fs'} e1 e3 =>
    ⟨pl, fl, e3, ⟨dx, e1 _ _ hD nb⟩, nk, nd, fun m i => ⟨e1 _ _ (hm m i).1 (hm m i).2, (hm m i).2⟩⟩
  refine ⟨k, bk, pl, fl, d, st.1, st.2.1, st.2.2, line, rfl, ⟨dx, hD⟩, hB, l1, l2, ?_⟩
  cases a with
  | full h1 o l => exact .inl ⟨_, _, _, h1, o, fun _ H' s => hq H' (h.same s), fun n => absurd l n⟩
  | dfn h1 o l => exact .inl ⟨_, _, _, h1, o, fun q => absurd q l, fun _ H' fl' e1 e2 e3 => hq _ (fin e1 e2 e3)⟩
  | ren o => exact .inr (.inl ⟨rfl, o, fun H' fl' e1 e2 e3 => hq _ (fin e1 e2 e3)⟩)
  | drp o => exact .inr (.inr (.inl ⟨rfl, o, fun H' fl' e1 e2 e3 => hq _ (fin e1 e2 e3)⟩))
  | total m e n => exact .inr (.inr (.inr (.inl ⟨_, rfl, m, e, n, fun H' s => hq H' (h.same s)⟩)))
  | undo => exact .inr (.inr (.inr (.inr (.inl ⟨_, _, rfl, rfl, fun H' e1 e3 => hq _ (fin2 e1 e3)⟩))))
  | names n => exact .inr (.inr (.inr (.inr (.inr ⟨rfl, n, fun H' s => hq H' (h.same s)⟩))))
theorem lcAsk {xs : List (Str × Str)} {t : Addr} {j : Nat} {te : TE} {vs : List Nat} {σ : L2.St} {Q : VK} (as : Asks xs st st') (hl : xs.length ≤ 100) (h : DK K H d k bk st ((t, .tup (xs.map fun q => V.str q.1)) :: M))
    (hw : ∀ x, wipe ((wipe σ vs).set j (some x)) vs = wipe σ vs) (hte : ∀ z H' (R : VK), DeskAt K H' k bk → sp_Desk_ask K [.ref k, .str z] H' R E0 → te ((wipe σ vs).set j (some (.str z))) H' R)
    (hq : ∀ D H', DK K H' d k bk st' ((D, .lst (xs.map fun q => V.str q.2)) :: M) → Q (.ref D) H') : LcK (Itt K t) (gName j) tYes te vs σ Q H := by
  intro D hD
  refine lc_it (walk_tup (xs := xs.map fun q => V.str q.1)) (Pv := fun i H' => ∃ s1, DK K H' d k bk s1 ((D, .lst ((xs.take i).map fun q => V.str q.2)) :: (t, .tup (xs.map fun q => V.str q.1)) :: M) ∧ Asks (xs.drop i) s1 st') ⟨st, h.new hD, as⟩ (fun i H' _ e => ?_) (fun i x H1 H2 hi e y => ?_) fun H1 e => ?_
  · obtain ⟨s1, e1, _⟩ := e
    exact .of (e1.drop.get List.mem_cons_self)
  · obtain ⟨s1, e1, e2⟩ := e
    obtain ⟨rfl, hx⟩ := y
    rw [List.getElem?_map] at hx
    cases hg : xs[i]? with
    | none => rw [hg] at hx; cases hx
    | some q =>
      rw [hg] at hx
      obtain rfl : V.str q.1 = x := Option.some.inj hx
      obtain ⟨z, y⟩ := q
      have hd : xs.drop i = (z, y) :: xs.drop (i + 1) := by
        obtain ⟨hi2, e⟩ := List.getElem?_eq_some_iff.mp hg
        rw [List.drop_eq_getElem_cons hi2, e]
      rw [hd] at e2
      cases e2 with
      | cons a l1 l2 r =>
        refine ⟨hw _, ?_⟩
        simp only [tYes, ↓reduceIte]
        refine hte z _ _ e1.desk (ask_ok a e1 l1 l2 fun H3 h3 => ⟨_, h3.get List.mem_cons_self, ?_, _, ?_, r⟩)
        · rw [List.length_map, List.length_take, sizeLine_eq]; omega
        · have := h3.put (ys := ((xs.take i).map fun q => V.str q.2) ++ [V.str y])
          rw [List.take_add_one, hg, List.map_append]
          exact this
  · obtain ⟨s1, e1, e2⟩ := e
    rw [List.length_map] at e1 e2
    rw [List.drop_length] at e2
    rw [List.take_length] at e1
    cases e2
    refine hq D H1 ?_
    obtain ⟨pl, fl, h1, h2, h3, h4, h5⟩ := e1
    refine ⟨pl, fl, h1, h2, h3, h4.sublist ?_, fun m hm => h5 m ?_⟩
    · exact .cons₂ _ (.cons _ (.refl _))
    · rcases List.mem_cons.mp hm with hm | hm
      · exact hm ▸ List.mem_cons_self
      · exact List.mem_cons_of_mem _ (List.mem_cons_of_mem _ hm)
end
/-! the lines' answers -/
def ls1 : List (Str × Str) := [("define q put 1", "error CapacityExceeded"), ("rename zz q", "ok"), ("define zz put 2", "error CapacityExceeded"), ("drop q", "ok")]
def ls2 (f : Nat) (z : Str) : List (Str × Str) := [("define q put 1", "error CapacityExceeded"), ("total zz", "2"), ("undo", "ok"), ("names", Txt.join " " (srt (mid f z)))]
theorem mid_nodup {f : Nat} (hf : f < 14) {z : Str} : (mid f z).Nodup := (lets_facts hf).1.filter _
theorem mid_out {f : Nat} (hf : f < 14) {z y : Str} (h : y.length ≠ 1 ∨ y = "q") : y ∉ mid f z := fun q => by
  have g := (lets_facts hf).2.2 y (List.mem_filter.mp q).1
  rcases h with h | h
  · exact h g.2.1
  · exact g.2.2 h
theorem asks1 {f : Nat} (hf : f < 14) {z : Str} (hz : z ∈ lets f) {s : KS} {ps : List KS} (hs : s.1 = srt (mid f z ++ [("zz" : Str)])) (hn : ps.length = 3) : ∃ s4 ps4, Asks ls1 (s, ps, []) (s4, ps4, []) ∧ s4.1 = srt (mid f z) ∧ ps4.length = 5 := by
  have lm := mid_len f hf z hz
  have pm : s.1.Perm (mid f z ++ [("zz" : Str)]) := hs ▸ srt_perm _
  have nz : ("zz" : Str) ∉ mid f z := mid_out hf (.inl (by decide))
  have nq : ("q" : Str) ∉ mid f z := mid_out hf (.inr rfl)
  have l0 : s.1.length = 12 := by rw [pm.length_eq, List.length_append, lm]; rfl
  have q0 : ("q" : Str) ∉ s.1 := fun q => by
    rcases List.mem_append.mp (pm.mem_iff.mp q) with q | q
    · exact nq q
    · exact absurd (List.mem_singleton.mp q) (by decide)
  -- rename
  have m1 : (mid f z ++ [("zz" : Str)]).map (fun y => if y = ("zz" : Str) then ("q" : Str) else y) = mid f z ++ [("q" : Str)] := by
    rw [List.map_append]
    congr 1
    conv => rhs; rw [← List.map_id (mid f z)]
    refine List.map_congr_left fun x hx => ?_
    have hxz : ¬ x = ("zz" : Str) := fun q => nz (by rw [← q]; exact hx)
    rw [if_neg hxz] <;> rfl
  have p1 : (srt (s.1.map fun y => if y = ("zz" : Str) then ("q" : Str) else y)).Perm (mid f z ++ [("q" : Str)]) := (srt_perm _).trans (m1 ▸ pm.map _)
  have l1 : (srt (s.1.map fun y => if y = ("zz" : Str) then ("q" : Str) else y)).length = 12 := by rw [p1.length_eq, List.length_append, lm] <;> rfl
  have z1 : ("zz" : Str) ∉ srt (s.1.map fun y => if y = ("zz" : Str) then ("q" : Str) else y) := fun q => by
    rcases List.mem_append.mp (p1.mem_iff.mp q) with q | q
    · exact nz q
    · exact absurd (List.mem_singleton.mp q) (by decide)
  have f1 : (mid f z ++ [("q" : Str)]).filter (fun y => decide (y ≠ ("q" : Str))) = mid f z := by
    rw [List.filter_append]
    have e1 : (mid f z).filter (fun y => decide (y ≠ ("q" : Str))) = mid f z := List.filter_eq_self.mpr fun y hy => decide_eq_true fun q => nq (q ▸ hy)
    rw [e1]
    simp
  refine ⟨((Cm.drp "q").nk ((Cm.ren "zz" "q").nk s.1), (Cm.drp "q").nb ((Cm.ren "zz" "q").nb s.2)), (ps ++ [s]) ++ [((Cm.ren "zz" "q").nk s.1, (Cm.ren "zz" "q").nb s.2)], ?_, ?_, ?_⟩
  · refine .cons (.full (z := "q") (rest := "q put 1") (c := 49) (.inl ⟨rfl, rfl, rfl, rfl⟩) ⟨by decide +kernel, q0⟩ l0) (by show ps.length < 1000; omega) (by show (0 : Nat) < 1000; decide) ?_
    refine .cons (.ren ⟨pm.mem_iff.mpr (List.mem_append_right _ List.mem_cons_self), by decide +kernel, q0⟩) (by show ps.length < 1000; omega) (by show (0 : Nat) < 1000; decide) ?_
    refine .cons (.full (z := "zz") (rest := "zz put 2") (c := 50) (.inr ⟨rfl, rfl, rfl, rfl⟩) ⟨by decide +kernel, z1⟩ l1) (by show (ps ++ [s]).length < 1000; rw [List.length_append, hn, List.length_singleton]; decide) (by show (0 : Nat) < 1000; decide) ?_
    exact .cons (.drp (show ("q" : Str) ∈ srt _ from p1.mem_iff.mpr (List.mem_append_right _ List.mem_cons_self))) (by show (ps ++ [s]).length < 1000; rw [List.length_append, hn, List.length_singleton]; decide) (by show (0 : Nat) < 1000; decide) (.nil _)
  · show srt ((srt (s.1.map fun y => if y = ("zz" : Str) then ("q" : Str) else y)).filter fun y => decide (y ≠ ("q" : Str))) = _
    exact srt_congr (f1 ▸ p1.filter _)
  · rw [List.length_append, List.length_append, hn] <;> rfl
theorem asks2 {f : Nat} (hf : f < 14) {z : Str} (hz : z ∈ lets f) {s : KS} {ps : List KS} (hs : s.1 = srt (mid f z)) (hn : ps.length = 5) :
    Ask "define zz put 2" "ok" (s, ps, []) (((Cm.dfn "zz" (some 2)).nk s.1, (Cm.dfn "zz" (some 2)).nb s.2), ps ++ [s], []) ∧
    Asks (ls2 f z) (((Cm.dfn "zz" (some 2)).nk s.1, (Cm.dfn "zz" (some 2)).nb s.2), ps ++ [s], []) (s, ps, [((Cm.dfn "zz" (some 2)).nk s.1, (Cm.dfn "zz" (some 2)).nb s.2)]) := by
  have lm := mid_len f hf z hz
  have pm : s.1.Perm (mid f z) := hs ▸ srt_perm _
  have nz : ("zz" : Str) ∉ mid f z := mid_out hf (.inl (by decide))
  have nq : ("q" : Str) ∉ mid f z := mid_out hf (.inr rfl)
  have z0 : ("zz" : Str) ∉ s.1 := fun q => nz (pm.mem_iff.mp q)
  have p2 : (srt (s.1 ++ [("zz" : Str)])).Perm (s.1 ++ [("zz" : Str)]) := srt_perm _
  have l2 : (srt (s.1 ++ [("zz" : Str)])).length = 12 := by rw [p2.length_eq, List.length_append, pm.length_eq, lm] <;> rfl
  have q2 : ("q" : Str) ∉ srt (s.1 ++ [("zz" : Str)]) := fun q => by
    rcases List.mem_append.mp (p2.mem_iff.mp q) with q | q
    · exact nq (pm.mem_iff.mp q)
    · exact absurd (List.mem_singleton.mp q) (by decide)
  refine ⟨.dfn (z := "zz") (rest := "zz put 2") (c := 50) (.inr ⟨rfl, rfl, rfl, rfl⟩) ⟨by decide +kernel, z0⟩ (by show s.1.length ≠ 12; rw [pm.length_eq, lm]; decide), ?_⟩
  have b1 : (ps ++ [s]).length < 1000 := by rw [List.length_append, hn, List.length_singleton]; decide
  refine .cons (.full (z := "q") (rest := "q put 1") (c := 49) (.inl ⟨rfl, rfl, rfl, rfl⟩) ⟨by decide +kernel, q2⟩ l2) b1 (by show (0 : Nat) < 1000; decide) ?_
  refine .cons (z := "total zz") (y := "2") (Ask.total (n := 2) (p2.mem_iff.mpr (List.mem_append_right _ List.mem_cons_self)) (show (if ("zz" : Str) = "zz" then some (2 : Int) else s.2 "zz") = some 2 from if_pos rfl) (.inr rfl)) b1 (by show (0 : Nat) < 1000; decide) ?_
  refine .cons .undo b1 (by show (0 : Nat) < 1000; decide) ?_
  refine .cons (by have h := Ask.names (s := s) (ps := ps) (fs := [((Cm.dfn "zz" (some 2)).nk s.1, (Cm.dfn "zz" (some 2)).nb s.2)]) (fun q => by have := pm.length_eq; rw [q, lm] at this; cases this); rw [hs] at h ⊢; exact h) (by show ps.length < 1000; omega) (by show (1 : Nat) < 1000; decide) (.nil _)
end Sf

/-! ### law: the last statements -/
namespace Sf
open PySem PySem.Spec PyProof.Rows L2
theorem DK.perm {K : PySem.W.Frag} {H : Hp} {d : Int} {k bk : Addr} {st : DS} {M M' : List (Addr × HO)} (p : M.Perm M') (h : DK K H d k bk st M) : DK K H d k bk st M' := by
  obtain ⟨pl, fl, h1, h2, h3, h4, h5⟩ := h
  exact ⟨pl, fl, h1, h2, h3, (p.map _).nodup_iff.mp h4, fun m hm => h5 m (p.mem_iff.mpr hm)⟩
section
variable {P : Program} {w : World} {K : PySem.W.Frag} {mg : Str → Option Value} {base : Heap} {c : Addr} {A : Around} {outer : List Env} {s0 : Shared} {H0 : Hp} {E : XK} {Pt : Addr} {ns : List Int}
/-- the slots up to told, rest behind it; the book, the desk, told, the letters -/
def BT (K : PySem.W.Frag) (d : Int) (f : Nat) (z1 z2 : Str) (bk k D L : Addr) (st : DS) (told : List Str) (M : List (Addr × HO)) (rest : List (Option V)) : L2.St → Hp → Prop := fun σ H => ∃ l b n r1 r2, σ = some l :: some b :: some (.int d) :: some (.int f) :: some (.ref L) :: some (.str z1) :: some (.str z2) :: some (.ref bk) :: some n :: r1 :: r2 :: some (.ref k) :: some (.ref D) :: rest ∧
  DK K H d k bk st (M ++ [(D, .lst (told.map V.str)), (L, .lst ((lets f).map V.str))])
def outs1 : List Str := ls1.map (·.2)
def A15 (K : PySem.W.Frag) : L2.St → Hp → Prop := fun σ H => ∃ d f z1 z2 bk k D L s ps, Lw d f z1 z2 ∧ s.1 = srt (mid f z1) ∧ ps.length = 5 ∧ BT K d f z1 z2 bk k D L (s, ps, []) outs1 [] [none, none, none, none, none] σ H
theorem st15 (T : Tx w K mg) (hr : Room 40 (A.deeper (envOfC "law" (defScope (topS 131)) s0.heap.objs.size (He.ga K "law") (.ref c)))) :
    Stp (LX P w K mg base c A outer s0 H0 E) ((defBody (topS 131)).getD 14 (.Pass default)) (A14 K) (A15 K) := by
  refine ⟨_, (ps_setLc (i := 12) (own := [("_law_line", 17)]) (g := gName 17) (tt := tYes) rfl sc_law.nd rfl rfl (sw_true rfl rfl rfl (by decide +kernel)) (pi_tup (pe_tup (pa_cons (pe_str) (pa_cons (pe_str) (pa_cons (pe_str) (pa_cons (pe_str) pa_nil)))))) (blkOk_by (N := sc_lawN) (sc := (defScope (topS 131))) (by decide +kernel)) (fun _ _ _ _ _ => (pg_name (i := 17) sc_law.nd rfl (Or.inl rfl))) (fun _ _ _ _ _ => pts_nil) (fun _ _ _ _ _ => (pe_m (pv 11) (r_Desk_ask (P := P) (w := w) (K := K) (base := base) T) T.c_Desk T.t_Desk_ask hr passL (pa_cons (pv 17) pa_nil)))), fun D σ H a nx => ?_⟩
  obtain ⟨d, f, L, NL, z1, z2, bk, s, ps, r1, r2, k, lw, ⟨l, b, pl, fl, rfl, hL, hNL, n1, n2, hB, hex⟩, hs, hn, hD, hkb⟩ := a
  simp only [rd, rd2, rd3, rd4, rd5, List.getElem?_cons_zero, List.getElem?_cons_succ, Option.some.injEq, exists_eq_left', exists_eq_left, exists_and_left, exists_and_right, List.cons.injEq, V.str.injEq, V.int.injEq, V.bl.injEq, V.ref.injEq, V.ty.injEq, and_true, true_and, List.set_cons_zero, List.set_cons_succ, exists_const, exists_false, reduceCtorEq, ↓reduceIte, exists_eq, exists_eq', and_self, cxK, wipe, List.map_cons, List.map_nil, List.length_cons, List.length_nil, Nat.zero_add, Nat.reduceAdd, Int.cast_ofNat_Int, Int.reduceEq, Int.reduceLE, Int.reduceLT, decide_eq_true_eq, decide_true, decide_false, Bool.true_eq_false, Bool.false_eq_true, Bool.not_true, Bool.not_false]
  refine ⟨by rw [sizeLine_eq]; decide, fun p hp => ⟨⟨_, .of upd_same⟩, ?_⟩⟩
  have hK : DK K H d k bk (s, ps, []) [(L, .lst ((lets f).map V.str))] := ⟨pl, fl, hB, hD, hkb, by simp, fun m hm => by rw [List.mem_singleton.mp hm]; exact ⟨hL, n1⟩⟩
  obtain ⟨s4, ps4, as, e1, e2⟩ := asks1 lw.pm.2.2 lw.m1 hs hn
  refine lcAsk (xs := ls1) as (by decide) (hK.new hp) (fun _ => rfl) (fun z H' R hk hR => ?_) fun D' H' h => nx _ _ ⟨d, f, z1, z2, bk, k, D', L, s4, ps4, lw, e1, e2, ⟨l, b, _, r1, r2, rfl, h⟩⟩
  obtain ⟨dx, hk⟩ := hk
  simp only [rd, rd2, rd3, rd4, rd5, List.getElem?_cons_zero, List.getElem?_cons_succ, Option.some.injEq, exists_eq_left', exists_eq_left, exists_and_left, exists_and_right, List.cons.injEq, V.str.injEq, V.int.injEq, V.bl.injEq, V.ref.injEq, V.ty.injEq, and_true, true_and, List.set_cons_zero, List.set_cons_succ, exists_const, exists_false, reduceCtorEq, ↓reduceIte, exists_eq, exists_eq', and_self, cxK, wipe, List.map_cons, List.map_nil, List.length_cons, List.length_nil, Nat.zero_add, Nat.reduceAdd, Int.cast_ofNat_Int, Int.reduceEq, Int.reduceLE, Int.reduceLT, decide_eq_true_eq, decide_true, decide_false, Bool.true_eq_false, Bool.false_eq_true, Bool.not_true, Bool.not_false]
  exact ⟨dx, _, hk, rfl, hR⟩
def A16 (K : PySem.W.Frag) : L2.St → Hp → Prop := fun σ H => ∃ d f z1 z2 bk k D L s ps, Lw d f z1 z2 ∧ s.1 = srt (mid f z1) ∧ ps.length = 5 ∧ BT K d f z1 z2 bk k D L (((Cm.dfn "zz" (some 2)).nk s.1, (Cm.dfn "zz" (some 2)).nb s.2), ps ++ [s], []) (outs1 ++ [("ok" : Str)]) [] [none, none, none, none, none] σ H
theorem st16 (T : Tx w K mg) (hr : Room 40 (A.deeper (envOfC "law" (defScope (topS 131)) s0.heap.objs.size (He.ga K "law") (.ref c)))) :
    Stp (LX P w K mg base c A outer s0 H0 E) ((defBody (topS 131)).getD 15 (.Pass default)) (A15 K) (A16 K) := by
  refine ⟨_, (ps_expr (pe_bm PySem.F.plainAttrs_list PySem.F.slot_list_append PySem.F.type_list_append mt_append (pv 12) (pa_cons (pe_m (pv 11) (r_Desk_ask (P := P) (w := w) (K := K) (base := base) T) T.c_Desk T.t_Desk_ask hr passL (pa_cons (pe_str) pa_nil)) pa_nil))), fun D σ H a nx => ?_⟩
  obtain ⟨d, f, z1, z2, bk, k, Td, L, s, ps, lw, hs, hn, ⟨l, b, n, r1, r2, rfl, hK⟩⟩ := a
  simp only [rd, rd2, rd3, rd4, rd5, List.getElem?_cons_zero, List.getElem?_cons_succ, Option.some.injEq, exists_eq_left', exists_eq_left, exists_and_left, exists_and_right, List.cons.injEq, V.str.injEq, V.int.injEq, V.bl.injEq, V.ref.injEq, V.ty.injEq, and_true, true_and, List.set_cons_zero, List.set_cons_succ, exists_const, exists_false, reduceCtorEq, ↓reduceIte, exists_eq, exists_eq', and_self, cxK, wipe, List.map_cons, List.map_nil, List.length_cons, List.length_nil, Nat.zero_add, Nat.reduceAdd, Int.cast_ofNat_Int, Int.reduceEq, Int.reduceLE, Int.reduceLT, decide_eq_true_eq, decide_true, decide_false, Bool.true_eq_false, Bool.false_eq_true, Bool.not_true, Bool.not_false]
  obtain ⟨dx, hk⟩ := hK.desk
  refine ⟨.inl ⟨rfl, _, .of (hK.get List.mem_cons_self)⟩, dx, _, hk, rfl, ask_ok (asks2 lw.pm.2.2 lw.m1 hs hn).1 hK (by show ps.length < 1000; omega) (by show (0 : Nat) < 1000; decide) fun H' h => ?_⟩
  refine ⟨Td, _, _, rfl, rfl, h.get List.mem_cons_self, by rw [sizeLine_eq]; exact (show (4 : Nat) < 16777216 by decide), nx _ _ ⟨d, f, z1, z2, bk, k, Td, L, s, ps, lw, hs, hn, ⟨l, b, n, r1, r2, rfl, DK.put h⟩⟩⟩
def tolds (f : Nat) (z : Str) : List Str := (outs1 ++ [("ok" : Str)]) ++ (ls2 f z).map (·.2)
def A17 (K : PySem.W.Frag) : L2.St → Hp → Prop := fun σ H => ∃ d f z1 z2 bk k D L s ps fs, Lw d f z1 z2 ∧ ps.length = 5 ∧ fs.length = 1 ∧ BT K d f z1 z2 bk k D L (s, ps, fs) (tolds f z1) [] [none, none, none, none, none] σ H
theorem st17 (T : Tx w K mg) (hr : Room 40 (A.deeper (envOfC "law" (defScope (topS 131)) s0.heap.objs.size (He.ga K "law") (.ref c)))) :
    Stp (LX P w K mg base c A outer s0 H0 E) ((defBody (topS 131)).getD 16 (.Pass default)) (A16 K) (A17 K) := by
  refine ⟨_, (ps_set (i := 12) sc_law.nd rfl (Or.inl rfl) (pe_op op_cat (pv 12) (pe_lc (own := [("_law_line", 17)]) (g := gName 17) (tt := tYes) rfl sc_law.nd (pi_tup (pe_tup (pa_cons (pe_str) (pa_cons (pe_str) (pa_cons (pe_str) (pa_cons (pe_str) pa_nil)))))) (blkOk_by (N := sc_lawN) (sc := (defScope (topS 131))) (by decide +kernel)) (fun _ _ _ _ _ => (pg_name (i := 17) sc_law.nd rfl (Or.inl rfl))) (fun _ _ _ _ _ => pts_nil) (fun _ _ _ _ _ => (pe_m (pv 11) (r_Desk_ask (P := P) (w := w) (K := K) (base := base) T) T.c_Desk T.t_Desk_ask hr passL (pa_cons (pv 17) pa_nil)))))), fun D σ H a nx => ?_⟩
  obtain ⟨d, f, z1, z2, bk, k, Td, L, s, ps, lw, hs, hn, ⟨l, b, n, r1, r2, rfl, hK⟩⟩ := a
  simp only [rd, rd2, rd3, rd4, rd5, List.getElem?_cons_zero, List.getElem?_cons_succ, Option.some.injEq, exists_eq_left', exists_eq_left, exists_and_left, exists_and_right, List.cons.injEq, V.str.injEq, V.int.injEq, V.bl.injEq, V.ref.injEq, V.ty.injEq, and_true, true_and, List.set_cons_zero, List.set_cons_succ, exists_const, exists_false, reduceCtorEq, ↓reduceIte, exists_eq, exists_eq', and_self, cxK, wipe, List.map_cons, List.map_nil, List.length_cons, List.length_nil, Nat.zero_add, Nat.reduceAdd, Int.cast_ofNat_Int, Int.reduceEq, Int.reduceLE, Int.reduceLT, decide_eq_true_eq, decide_true, decide_false, Bool.true_eq_false, Bool.false_eq_true, Bool.not_true, Bool.not_false]
  refine ⟨by rw [sizeLine_eq]; decide, fun p hp => ⟨⟨_, .of upd_same⟩, ?_⟩⟩
  refine lcAsk (xs := ls2 f z1) (asks2 lw.pm.2.2 lw.m1 hs hn).2 (show (4 : Nat) ≤ 100 by decide) (hK.new hp) (fun _ => rfl) (fun z H' R hk hR => ?_) fun D' H' h => ?_
  · obtain ⟨dx, hk⟩ := hk
    simp only [rd, rd2, rd3, rd4, rd5, List.getElem?_cons_zero, List.getElem?_cons_succ, Option.some.injEq, exists_eq_left', exists_eq_left, exists_and_left, exists_and_right, List.cons.injEq, V.str.injEq, V.int.injEq, V.bl.injEq, V.ref.injEq, V.ty.injEq, and_true, true_and, List.set_cons_zero, List.set_cons_succ, exists_const, exists_false, reduceCtorEq, ↓reduceIte, exists_eq, exists_eq', and_self, cxK, wipe, List.map_cons, List.map_nil, List.length_cons, List.length_nil, Nat.zero_add, Nat.reduceAdd, Int.cast_ofNat_Int, Int.reduceEq, Int.reduceLE, Int.reduceLT, decide_eq_true_eq, decide_true, decide_false, Bool.true_eq_false, Bool.false_eq_true, Bool.not_true, Bool.not_false]
    exact ⟨dx, _, hk, rfl, hR⟩
  · refine ⟨Td, D', _, _, rfl, rfl, h.drop.get List.mem_cons_self, h.get List.mem_cons_self, by rw [sizeLine_eq]; exact (show (9 : Nat) ≤ 16777216 by decide), fun p2 i2 => ?_⟩
    have h2 := (h.drop.drop).new (o := .lst ((tolds f z1).map V.str)) (p := p2) (H := H')
    exact nx _ _ ⟨d, f, z1, z2, bk, k, p2, L, _, _, _, lw, hn, rfl, ⟨l, b, n, r1, r2, rfl, h2 i2⟩⟩
def dues : List Str := ["error CapacityExceeded", "ok", "error CapacityExceeded", "ok", "ok", "error CapacityExceeded", "2", "ok"]
def A18 (K : PySem.W.Frag) : L2.St → Hp → Prop := fun σ H => ∃ d f z1 z2 bk k D L s ps fs U, Lw d f z1 z2 ∧ ps.length = 5 ∧ fs.length = 1 ∧ BT K d f z1 z2 bk k D L (s, ps, fs) (tolds f z1) [(U, .lst (dues.map V.str))] [some (.ref U), none, none, none, none] σ H
theorem st18 (T : Tx w K mg) (hr : Room 40 (A.deeper (envOfC "law" (defScope (topS 131)) s0.heap.objs.size (He.ga K "law") (.ref c)))) :
    Stp (LX P w K mg base c A outer s0 H0 E) ((defBody (topS 131)).getD 17 (.Pass default)) (A17 K) (A18 K) := by
  refine ⟨_, (ps_set (i := 13) sc_law.nd rfl (Or.inl rfl) (pe_lst (pa_cons (pe_str) (pa_cons (pe_str) (pa_cons (pe_str) (pa_cons (pe_str) (pa_cons (pe_str) (pa_cons (pe_str) (pa_cons (pe_str) (pa_cons (pe_str) pa_nil)))))))))), fun D σ H a nx => ?_⟩
  obtain ⟨d, f, z1, z2, bk, k, Td, L, s, ps, fs, lw, hn, hf, ⟨l, b, n, r1, r2, rfl, hK⟩⟩ := a
  simp only [rd, rd2, rd3, rd4, rd5, List.getElem?_cons_zero, List.getElem?_cons_succ, Option.some.injEq, exists_eq_left', exists_eq_left, exists_and_left, exists_and_right, List.cons.injEq, V.str.injEq, V.int.injEq, V.bl.injEq, V.ref.injEq, V.ty.injEq, and_true, true_and, List.set_cons_zero, List.set_cons_succ, exists_const, exists_false, reduceCtorEq, ↓reduceIte, exists_eq, exists_eq', and_self, cxK, wipe, List.map_cons, List.map_nil, List.length_cons, List.length_nil, Nat.zero_add, Nat.reduceAdd, Int.cast_ofNat_Int, Int.reduceEq, Int.reduceLE, Int.reduceLT, decide_eq_true_eq, decide_true, decide_false, Bool.true_eq_false, Bool.false_eq_true, Bool.not_true, Bool.not_false]
  exact ⟨by rw [sizeLine_eq]; decide, fun p hp => nx _ _ ⟨d, f, z1, z2, bk, k, Td, L, s, ps, fs, p, lw, hn, hf, ⟨l, b, n, r1, r2, rfl, hK.new hp⟩⟩⟩
def A19 (K : PySem.W.Frag) : L2.St → Hp → Prop := fun σ H => ∃ d f z1 z2 bk k D L s ps fs U R, Lw d f z1 z2 ∧ ps.length = 5 ∧ fs.length = 1 ∧ BT K d f z1 z2 bk k D L (s, ps, fs) (tolds f z1) [(R, .lst ((srt (mid f z1)).map V.str)), (U, .lst (dues.map V.str))] [some (.ref U), some (.ref R), none, none, none] σ H
theorem st19 (T : Tx w K mg) (hr : Room 40 (A.deeper (envOfC "law" (defScope (topS 131)) s0.heap.objs.size (He.ga K "law") (.ref c)))) :
    Stp (LX P w K mg base c A outer s0 H0 E) ((defBody (topS 131)).getD 18 (.Pass default)) (A18 K) (A19 K) := by
  refine ⟨_, (ps_set (i := 14) sc_law.nd rfl (Or.inl rfl) (pe_callB cr_sortedS (by rfl) T.n_sorted (by decide +kernel) (pa_cons (pe_lc (own := [("_law_sign", 16)]) (g := gName 16) rfl sc_law.nd (pi_list (pv 4)) (blkOk_by (N := sc_lawN) (sc := (defScope (topS 131))) (by decide +kernel)) (fun _ _ _ _ _ => (pg_name (i := 16) sc_law.nd rfl (Or.inl rfl))) (fun _ _ _ _ _ => (pts_one (pt_cmpR op_ne (pv 16) (pv 5) (nomark _)))) (fun _ _ _ _ _ => (pv 16))) pa_nil))), fun D σ H a nx => ?_⟩
  obtain ⟨d, f, z1, z2, bk, k, Td, L, s, ps, fs, U, lw, hn, hf, ⟨l, b, n, r1, r2, rfl, hK⟩⟩ := a
  simp only [rd, rd2, rd3, rd4, rd5, List.getElem?_cons_zero, List.getElem?_cons_succ, Option.some.injEq, exists_eq_left', exists_eq_left, exists_and_left, exists_and_right, List.cons.injEq, V.str.injEq, V.int.injEq, V.bl.injEq, V.ref.injEq, V.ty.injEq, and_true, true_and, List.set_cons_zero, List.set_cons_succ, exists_const, exists_false, reduceCtorEq, ↓reduceIte, exists_eq, exists_eq', and_self, cxK, wipe, List.map_cons, List.map_nil, List.length_cons, List.length_nil, Nat.zero_add, Nat.reduceAdd, Int.cast_ofNat_Int, Int.reduceEq, Int.reduceLE, Int.reduceLT, decide_eq_true_eq, decide_true, decide_false, Bool.true_eq_false, Bool.false_eq_true, Bool.not_true, Bool.not_false]
  have lo := lets_facts lw.pm.2.2
  have lm := mid_len f lw.pm.2.2 z1 lw.m1
  have hL := hK.drop.drop.get List.mem_cons_self
  refine ⟨⟨_, .of hL⟩, lcG (walk_list (xs := (lets f).map V.str)) (fun v => !decide (v = .str z1)) (fun v => v) (by rw [List.length_map, lo.2.1]; decide) (fun _ => rfl) (fun H' s1 => .of (s1 _ _ hL)) (fun x H' R hx s1 hR => ?_) (fun x H' R hx _ s1 hR => ?_) fun D' H' s1 hD => ?_⟩
  · obtain ⟨z, hz, rfl⟩ := List.mem_map.mp hx
    simp only [rd, rd2, rd3, rd4, rd5, List.getElem?_cons_zero, List.getElem?_cons_succ, Option.some.injEq, exists_eq_left', exists_eq_left, exists_and_left, exists_and_right, List.cons.injEq, V.str.injEq, V.int.injEq, V.bl.injEq, V.ref.injEq, V.ty.injEq, and_true, true_and, List.set_cons_zero, List.set_cons_succ, exists_const, exists_false, reduceCtorEq, ↓reduceIte, exists_eq, exists_eq', and_self, cxK, wipe, List.map_cons, List.map_nil, List.length_cons, List.length_nil, Nat.zero_add, Nat.reduceAdd, Int.cast_ofNat_Int, Int.reduceEq, Int.reduceLE, Int.reduceLT, decide_eq_true_eq, decide_true, decide_false, Bool.true_eq_false, Bool.false_eq_true, Bool.not_true, Bool.not_false]
    exact ⟨rfl, by have h := hR _ (Same.refl H'); simpa using h⟩
  · simp only [rd, rd2, rd3, rd4, rd5, List.getElem?_cons_zero, List.getElem?_cons_succ, Option.some.injEq, exists_eq_left', exists_eq_left, exists_and_left, exists_and_right, List.cons.injEq, V.str.injEq, V.int.injEq, V.bl.injEq, V.ref.injEq, V.ty.injEq, and_true, true_and, List.set_cons_zero, List.set_cons_succ, exists_const, exists_false, reduceCtorEq, ↓reduceIte, exists_eq, exists_eq', and_self, cxK, wipe, List.map_cons, List.map_nil, List.length_cons, List.length_nil, Nat.zero_add, Nat.reduceAdd, Int.cast_ofNat_Int, Int.reduceEq, Int.reduceLE, Int.reduceLT, decide_eq_true_eq, decide_true, decide_false, Bool.true_eq_false, Bool.false_eq_true, Bool.not_true, Bool.not_false]
    exact hR _ (Same.refl _)
  · have hD2 : H' D' = some (.lst ((mid f z1).map V.str)) := by
      rw [hD, List.map_id', List.filter_map]
      congr 2
      unfold mid
      congr 1
      refine List.filter_congr fun y _ => ?_
      simp
    refine ⟨D', mid f z1, rfl, .of hD2, by rw [lm]; decide, fun ys p3 pm hs3 i3 => ?_⟩
    obtain rfl := srt_of pm hs3
    exact nx _ _ ⟨d, f, z1, z2, bk, k, Td, L, s, ps, fs, U, p3, lw, hn, hf, ⟨l, b, n, r1, r2, rfl, (hK.same s1).new i3⟩⟩
theorem eqd_strs {K : PySem.W.Frag} {H : Hp} {a b : Addr} {n : Nat} {zs : List Str} (hl : zs.length ≤ 1000) (ha : H a = some (.lst (zs.map V.str))) (hb : H b = some (.lst (zs.map V.str))) : EqD K (n + 1) H (.ref a) (.ref b) := by
  refine .inr ⟨a, b, _, _, rfl, rfl, .inl ⟨ha, hb⟩, rfl, by rw [List.length_map]; exact hl, fun i u v hu hv => ?_⟩
  rw [hu] at hv
  cases hv
  rw [List.getElem?_map] at hu
  cases q : zs[i]? with
  | none => rw [q] at hu; cases hu
  | some y =>
    rw [q] at hu
    cases hu
    have e : LfE (V.str y) (V.str y) := ⟨rfl, .inl ⟨y, rfl⟩⟩
    cases n with
    | zero => exact e
    | succ n => exact .inl e
theorem sum_le1 : ∀ l : List Str, (∀ x ∈ l, x.length = 1) → (l.map fun x => x.length).sum = l.length
  | [], _ => rfl
  | x :: l, h => by
    rw [List.map_cons, List.sum_cons, sum_le1 l fun y hy => h y (List.mem_cons_of_mem _ hy), h x List.mem_cons_self, List.length_cons, Nat.add_comm]
theorem st20 (T : Tx w K mg) (hr : Room 40 (A.deeper (envOfC "law" (defScope (topS 131)) s0.heap.objs.size (He.ga K "law") (.ref c)))) :
    SStp (LX P w K mg base c A outer s0 H0 E) [(defBody (topS 131)).getD 19 (.Pass default)] (A19 K) := by
  refine ⟨_, pss_one (ps_ret (pe_and (pe_f (r__law_same (P := P) (w := w) (K := K) (base := base) T) T.g__law_same T.f__law_same.keep hr passL (pa_cons (pv 12) (pa_cons (pe_op op_cat (pv 13) (pe_lst (pa_cons (pe_join (pe_str) (pv 14)) pa_nil))) pa_nil))) (pe_one (pe_f (r__law_same (P := P) (w := w) (K := K) (base := base) T) T.g__law_same T.f__law_same.keep hr passL (pa_cons (pe_m0 (pv 7) (r_Book_history (P := P) (w := w) (K := K) (base := base) T) T.c_Book T.t_Book_history hr passL) (pa_cons (pe_tup (pa_cons (pe_int) (pa_cons (pe_int) pa_nil))) pa_nil)))))), fun D σ H a nx => ?_⟩
  obtain ⟨d, f, z1, z2, bk, k, Td, L, s, ps, fs, U, R, lw, hn, hf, ⟨l, b, n, r1, r2, rfl, hK⟩⟩ := a
  simp only [rd, rd2, rd3, rd4, rd5, List.getElem?_cons_zero, List.getElem?_cons_succ, Option.some.injEq, exists_eq_left', exists_eq_left, exists_and_left, exists_and_right, List.cons.injEq, V.str.injEq, V.int.injEq, V.bl.injEq, V.ref.injEq, V.ty.injEq, and_true, true_and, List.set_cons_zero, List.set_cons_succ, exists_const, exists_false, reduceCtorEq, ↓reduceIte, exists_eq, exists_eq', and_self, cxK, wipe, List.map_cons, List.map_nil, List.length_cons, List.length_nil, Nat.zero_add, Nat.reduceAdd, Int.cast_ofNat_Int, Int.reduceEq, Int.reduceLE, Int.reduceLT, decide_eq_true_eq, decide_true, decide_false, Bool.true_eq_false, Bool.false_eq_true, Bool.not_true, Bool.not_false]
  have lo := lets_facts lw.pm.2.2
  have lm := mid_len f lw.pm.2.2 z1 lw.m1
  have ls : (srt (mid f z1)).length = 11 := by rw [(srt_perm _).length_eq, lm]
  refine ⟨srt (mid f z1), .inl (.of (hK.get List.mem_cons_self)), ?_, by rw [sizeLine_eq]; decide, fun p hp => ?_⟩
  · rw [sum_le1 (srt (mid f z1)) fun x hx => (lo.2.2 x (List.mem_filter.mp ((srt_perm _).mem_iff.mp hx)).1).2.1, ls]
    decide +kernel
  have h1 := hK.new (o := .lst [V.str (Txt.join " " (srt (mid f z1)))]) hp
  refine ⟨U, p, _, _, rfl, rfl, h1.get (List.mem_cons_of_mem _ (List.mem_cons_of_mem _ List.mem_cons_self)), upd_same, by rw [sizeLine_eq]; exact (show (9 : Nat) ≤ 16777216 by decide), fun p2 i2 => ?_⟩
  have h2 := h1.new (o := .lst ((tolds f z1).map V.str)) i2
  refine ⟨.ref Td, .ref p2, rfl, eqd_strs (zs := tolds f z1) (show (9 : Nat) ≤ 1000 by decide) (h2.get (List.mem_cons_of_mem _ (List.mem_cons_of_mem _ (List.mem_cons_of_mem _ (List.mem_cons_of_mem _ List.mem_cons_self))))) upd_same, fun H' s' => ⟨true, rfl, ?_⟩⟩
  rw [if_pos rfl]
  obtain ⟨pl, fl, hB, _⟩ := h2.same s'
  obtain ⟨dx, fs', hb, hfs⟩ : ∃ dx fs, H' bk = some (.ins (He.ga K "Book") dx fs) ∧ fs.lookup ("history" : Str) = none := by
    obtain ⟨dx, p, kt, kn, ts, qv, gv, h1, _⟩ := id hB
    exact ⟨dx, _, h1, by rfl⟩
  refine ⟨dx, fs', hb, hfs, bk, pl, fl, d, s, ps, fs, rfl, hB, fun t ht => ⟨by rw [sizeLine_eq]; decide, fun p3 i3 => ?_⟩⟩
  refine ⟨.ref t, .ref p3, rfl, .inr ⟨t, p3, _, _, rfl, rfl, .inr ⟨.of (same_upd i3 _ _ upd_same), .of upd_same⟩, rfl, (show (2 : Nat) ≤ 1000 by decide), fun i u v hu hv => ?_⟩, fun H3 _ => nx H3⟩
  have q1 : V.int ((ps.length : Nat) : Int) = .int 5 := by rw [hn] <;> rfl
  have q2 : V.int ((fs.length : Nat) : Int) = .int 1 := by rw [hf] <;> rfl
  match i, hu, hv with
  | 0, hu, hv => cases hu; cases hv; exact .inl ⟨q1, .inr ⟨_, rfl⟩⟩
  | 1, hu, hv => cases hu; cases hv; exact .inl ⟨q2, .inr ⟨_, rfl⟩⟩
end
end Sf

/-! ### law's promise -/
namespace Sf
open PySem PySem.Spec PyProof.Rows L2
def sp_law (K : PySem.W.Frag) (Pt : Addr) : Sp := fun vs H Q E => ∃ (l : Addr) (ns : List Int), vs = [.ref l] ∧ SqL K H l (ns.map V.int) ∧ ns.length ≤ 63 ∧ H Pt = some (.tbl #[]) ∧ ∀ H', Q (.bl true) H'
abbrev lst (i : Nat) : Stmt := (defBody (topS 131)).getD i (.Pass default)
theorem law_body : defBody (topS 131) = [lst 0, lst 1, lst 2, lst 3, lst 4, lst 5, lst 6, lst 7, lst 8, lst 9, lst 10, lst 11, lst 12, lst 13, lst 14, lst 15, lst 16, lst 17, lst 18, lst 19] := by rfl
theorem law_start (l : Addr) : start sc_lawN [.ref l] = [some (.ref l), none, none, none, none, none, none, none, none, none, none, none, none, none, none, none, none, none] := rfl
theorem ok_law {P : Program} {w : World} {K : PySem.W.Frag} {mg : Str → Option Value} {base : Heap} {Pt : Addr} (T : Tx w K mg) {oc : Value} {od : Option Addr} {dV kV doc pm ct : Value} {an : Option Addr} {c : Addr} {osl : Array (Option Value)}
    (lk : K.lookup (He.ga K "law") = some ⟨oc, od, .func (PySem.W.fnOf "law" "law" (defArgs (topS 131)) (defBody (topS 131)) (defScope (topS 131)) dV kV doc pm an (.ref c) ct), osl⟩) (hcd : PySem.W.codeIn K (.ref c) "law" = true) (TB : LamX.TabB base mg c Pt) :
    FnOk P w K mg base (L2.CX P w) 41 (He.ga K "law") (PySem.W.fnOf "law" "law" (defArgs (topS 131)) (defBody (topS 131)) (defScope (topS 131)) dV kV doc pm an (.ref c) ct) ["_law_script"] (sp_law K Pt) := by
  refine fn_of lk hcd sc_law (fun vs H Q E h => by obtain ⟨l, ns, rfl, h⟩ := h; rfl) (fun A outer s H vs Q E hr h => ?_)
  obtain ⟨l, ns, rfl, hl, hn, hP, hq⟩ := h
  rw [law_start, law_body]
  obtain ⟨t, p, g⟩ := scons (st1 (P := P) (base := base) (outer := outer) (H0 := H) (E := E) (Pt := Pt) T hn hr) (scons (st2 T hn hr) (scons (st3 T hr) (scons (st4 T hn hr) (scons (st5 T hr) (scons (st6 T hr) (scons (st7 T hr) (scons (st8 T hr) (scons (st9 T hr) (scons (st10 T hr) (scons (st11 T TB hr)
    (scons (st12 T hr) (scons (st13 T hr) (scons (st14 T hr) (scons (st15 T hr) (scons (st16 T hr) (scons (st17 T hr) (scons (st18 T hr) (scons (st19 T hr) (st20 T hr)))))))))))))))))))
  exact ⟨t, p, g _ _ H ⟨l, rfl, hl, hP⟩ fun H' => hq H'⟩
end Sf

/-! ### the facts told -/
namespace Sf
open PySem PySem.Spec PyProof.Rows L2
theorem two {a b : Bool} (h : (a && b) = true) : a = true ∧ b = true := Bool.and_eq_true_iff.mp h
theorem propB_ok {K : PySem.W.Frag} {C : Addr} {f : Str} (h : propB K C f = true) : PropOf K C f (He.ma K C f) (He5.wf K C "property" f) := by
  obtain ⟨h1, h⟩ := two h
  obtain ⟨h2, h⟩ := two h
  obtain ⟨h3, h4⟩ := two h
  refine ⟨He.eqO_ok h1, He.eqO_ok h2, of_decide_eq_true h3, ?_⟩
  clear h3
  unfold He5.wf
  split at h4
  · rename_i g r e
    exact ⟨r, by rw [e]⟩
  · cases h4
theorem statB_ok {K : PySem.W.Frag} {C : Addr} {m : Str} (h : statB K C m = true) : Stat K C m (He5.wf K C "staticmethod" m) := by
  obtain ⟨h1, h⟩ := two h
  obtain ⟨h2, h⟩ := two h
  obtain ⟨h3, h4⟩ := two h
  obtain ⟨k1, r, k2⟩ := He5.wrapB_ok h3
  exact ⟨⟨h1, He.eqO_ok h2⟩, ⟨_, r, k1, k2⟩, h4⟩
theorem oexA_ok {C : Addr} {o : Option Obj} (h : oexA C o = true) : ∃ nm q N bs bm sn sub ab col dd k0 k1 k2 k3 k5, o = some (excClassObj nm q C N bs bm true sn sub ab col dd k0 k1 k2 k3 k5 "ValueError.__new__") ∧ PySem.HandSPX.refsVE bm = true := by
  unfold oexA at h
  split at h
  · rename_i t dd cd sl
    obtain ⟨h1, g⟩ := two h
    clear h
    obtain ⟨h2, g2⟩ := two g
    clear g
    obtain ⟨g3, h5⟩ := two g2
    clear g2
    obtain ⟨h3, h4⟩ := two g3
    clear g3
    obtain ⟨nm, bs, mro, ns, qn, hd, sn, sub, ab, col, del⟩ := cd
    obtain ⟨l⟩ := sl
    dsimp only at h2 h3 h4 h5
    split at h4
    · rename_i D bm
      obtain ⟨h6, h7⟩ := two h4
      split at h5
      · rename_i k0 k1 k2 k3 n k5
        have e1 := of_decide_eq_true h1
        have e2 := of_decide_eq_true h6
        have e3 := of_decide_eq_true h5
        have e4 : del = false := by simpa using h3
        subst e1 e2 e3 e4 h2
        exact ⟨nm, qn, ns, bs, bm, sn, sub, ab, col, dd, k0, k1, k2, k3, k5, rfl, h7⟩
      · cases h5
    · cases h4
  · cases h
theorem oexB_ok {K : PySem.W.Frag} {C : Addr} (h : oexB K C = true) : OexC K C := by
  obtain ⟨h1, h⟩ := two h
  obtain ⟨h2, h⟩ := two h
  obtain ⟨h3, h⟩ := two h
  obtain ⟨h4, h5⟩ := two h
  exact ⟨oexA_ok h1, He.eqO_ok h2, of_decide_eq_true h3, of_decide_eq_true h4, h5⟩
/-- a table's values -/
theorem vals_ok {K : PySem.W.Frag} {a : Addr} {kvs : List (Str × He.Dv)} {l : List (Str × Int)} (h : He.valsB K a kvs = true) (e : kvs = l.map fun q => (q.1, .int q.2)) : ∀ q ∈ l, ∃ u, PySem.W.nsIn K a q.1 = some (some u) ∧ RelV (.int q.2) u := fun q hq => by
  subst e
  exact He.valsB_ok h (q := (q.1, .int q.2)) (List.mem_map.mpr ⟨q, hq, rfl⟩)
theorem faN_ok {K : PySem.W.Frag} {f : He.Fa} (h : faN PySem.W.nsIn He.ga K f = true) : f.ok K = true := by
  cases f with
  | glo x => exact h
  | free x => exact h
  | int x i => exact h
  | str x z => exact h
  | cls x => exact h
  | noat x y => exact h
  | meth x m => exact h
  | mkr x => exact h
  | exm x y b => exact h
  | exc x => cases h
  | keep x => cases h
  | code p q => cases h
theorem sameCps_iff : ∀ {l m : List Nat}, sameCps l m = true ↔ l = m
  | [], [] => ⟨fun _ => rfl, fun _ => rfl⟩
  | [], _ :: _ => ⟨fun h => (nomatch (show false = true from h)), fun h => (nomatch h)⟩
  | _ :: _, [] => ⟨fun h => (nomatch (show false = true from h)), fun h => (nomatch h)⟩
  | a :: l, b :: m => by
    unfold sameCps
    cases e : Nat.beq a b with
    | true =>
      have e2 : a = b := Nat.eq_of_beq_eq_true e
      subst e2
      show sameCps l m = true ↔ _
      rw [sameCps_iff, List.cons.injEq]
      exact ⟨fun h => ⟨rfl, h⟩, fun h => h.2⟩
    | false =>
      refine ⟨fun h => (nomatch (show false = true from h)), fun h => ?_⟩
      injection h with h1 h2
      rw [h1, Nat.beq_refl] at e
      cases e
theorem keyF_eq (v : Value) (x : Str) : keyF v x.cps.toList = v.isStr x := by
  cases v with
  | str s t =>
    show sameCps s.cps.toList x.cps.toList = (s == x)
    rw [Bool.eq_iff_iff, sameCps_iff, beq_iff_eq]
    obtain ⟨⟨l⟩⟩ := s
    obtain ⟨⟨m⟩⟩ := x
    exact ⟨fun h => by rw [show l = m from h], fun h => by cases h; rfl⟩
  | _ => rfl
theorem nsF_eq : nsF = PySem.W.nsIn := by
  funext K a x
  unfold nsF PySem.W.nsIn
  have e : (fun e : DictEntry => keyF e.key x.cps.toList) = fun e => e.key.isStr x := funext fun e => keyF_eq e.key x
  rw [e]
  rfl
theorem gaF_eq : gaN nsF = He.ga := by
  rw [nsF_eq]
  rfl
theorem str_same (n q : Str) : sameCps n.cps.toList q.cps.toList = (n == q) := keyF_eq (.str n 0) q
theorem codeF_eq (K : PySem.W.Frag) (cd : Value) (q : Str) : codeF K cd q = PySem.W.codeIn K cd q := by
  unfold codeF PySem.W.codeIn
  simp only [str_same]
  rfl
theorem okF_eq : okF = He5.DefA.ok := by
  funext K d
  unfold okF He5.DefA.ok
  simp only [codeF_eq]
  rfl
/-- what is told of a list of defs -/
structure SaysF (ls : List (List He5.DefA)) (K : PySem.W.Frag) : Prop where
  fok : ∀ l ∈ ls, ∀ d ∈ l, He5.DefA.ok K d = true
  fn : (ls.map fun l => l.map fun d => He5.fnA K (d.at_ K)) = ls.map fun l => l.map He5.DefA.val
theorem saysF_of {ls : List (List He5.DefA)} {K : PySem.W.Frag} (e : obsF He5.DefA.ok ls K = valF ls) : SaysF ls K :=
  ⟨fun l hl d hd => List.all_eq_true.mp (List.all_eq_true.mp (congrArg (fun z : AlF => z.1) e) l hl) d hd, congrArg (fun z : AlF => z.2) e⟩
structure SaysZ (w : World) (h : Heap) (K : PySem.W.Frag) : Prop where
  fa : ∀ l ∈ fas, ∀ f ∈ l, faN PySem.W.nsIn He.ga K f = true
  ex : ∀ f ∈ exs He.ga, f K = true
  hd : PySem.W.codeHdIn K (lawT K).1 (lawT K).2 = true
  out : K.lookup (lawT K).2 = none
  empty : h.get? (lawT K).2 = some { cls := .none, data := .fields #[] }
  fA : SaysF (fnsA He.ga) K
  fB : SaysF (fnsB He.ga) K
  ts : ((tbs He.ga).map fun t => He.dicW K (t.1 K)) = (tbs He.ga).map fun t => some (He.keysIn w.params t.2)
theorem saysZ_of {w : World} {h : Heap} (e : obZ h.get? = valZ w) : SaysZ w h (KZ h.get?) := by
  have e1 : (obsG PySem.W.nsIn He.ga (KZ h.get?) && obsX He.ga h.get? (KZ h.get?)) = true := congrArg (fun z : AlZ => z.1) e
  have e2 : obsF He5.DefA.ok (fnsA He.ga) (KZ h.get?) = valF (fnsA He.ga) := congrArg (fun z : AlZ => z.2.1) e
  have e3 : obsF He5.DefA.ok (fnsB He.ga) (KZ h.get?) = valF (fnsB He.ga) := congrArg (fun z : AlZ => z.2.2.1) e
  have e5 : obsD He.ga (KZ h.get?) = valD He.ga w := congrArg (fun z : AlZ => z.2.2.2) e
  obtain ⟨h1, q⟩ := two e1
  obtain ⟨h3, q⟩ := two q
  obtain ⟨h4, h5⟩ := two q
  have h6 : ∃ o, h.get? (lawT (KZ h.get?)).2 = some o ∧ He.emptyTab o = true := by
    unfold emptyAt at h5
    split at h5
    · rename_i o q
      exact ⟨o, q, h5⟩
    · cases h5
  obtain ⟨o, h6, h7⟩ := h6
  exact ⟨fun l hl f hf => List.all_eq_true.mp (List.all_eq_true.mp h1 l hl) f hf, fun f hf => List.all_eq_true.mp h3 f hf, h4, He.frT_none h6 h7, by rw [h6, He.emptyTab_eq h7], saysF_of e2, saysF_of e3, e5⟩
def hkZ : PySem.W.Hook where
  α := AlZ
  obs := fun s => obZ s.heap.get?
  val := fun w => valZ w
  says := fun w h => ∃ K : PySem.W.Frag, K.In h ∧ SaysZ w h K
  of := fun _ _ e => ⟨_, He.frT_in, saysZ_of e⟩
  keeps := fun _ _ _ ⟨K, hK, c⟩ k => ⟨K, PySem.W.Frag.In.keeps hK k, ⟨c.fa, c.ex, c.hd, c.out, k _ _ c.empty, c.fA, c.fB, c.ts⟩⟩
theorem obZ_eq (s : PySem.W.SharedT) : obZ (HandSHeadRun.getT s) = hkZ.obs s.abs := by
  have e : HandSHeadRun.getT s = s.abs.heap.get? := funext fun a => HandSHeadRun.getT_eq s a
  rw [e] <;> rfl
section
variable {w : World} {h : Heap} {K : PySem.W.Frag} {mg : Str → Option Value}
theorem SaysZ.fact (c : SaysZ w h K) (i j : Nat) {l : List He.Fa} {f : He.Fa} (h1 : fas[i]? = some l := by rfl) (h2 : l[j]? = some f := by rfl) : f.ok K = true := faN_ok (c.fa l (List.mem_of_getElem? h1) f (List.mem_of_getElem? h2))
theorem SaysZ.extra (c : SaysZ w h K) (i : Nat) {f : PySem.W.Frag → Bool} (h1 : (exs He.ga)[i]? = some f := by rfl) : f K = true := c.ex f (List.mem_of_getElem? h1)
theorem SaysF.def_ {ls : List (List He5.DefA)} (c : SaysF ls K) (i j : Nat) {l : List He5.DefA} {d : He5.DefA} (h1 : ls[i]? = some l) (h2 : l[j]? = some d) : ∃ fd, FunD K d.name d.qual d.params d.body d.scope (d.dvs K) (d.kws K) (d.at_ K) fd := by
  have q : (ls.map fun l => l.map fun d => He5.fnA K (d.at_ K))[i]? = (ls.map fun l => l.map He5.DefA.val)[i]? := by rw [c.fn]
  rw [List.getElem?_map, List.getElem?_map, h1] at q
  have q2 : (l.map fun d => He5.fnA K (d.at_ K)) = l.map He5.DefA.val := Option.some.inj q
  have q3 : (l.map fun d => He5.fnA K (d.at_ K))[j]? = (l.map He5.DefA.val)[j]? := by rw [q2]
  rw [List.getElem?_map, List.getElem?_map, h2] at q3
  exact He5.DefA.funD (Option.some.inj q3) (c.fok l (List.mem_of_getElem? h1) d (List.mem_of_getElem? h2))
theorem SaysZ.fnA (c : SaysZ w h K) (i j : Nat) (a : PySem.W.Frag → Addr) (n q : Str) (st : Stmt) (kw : List (Str × He.Dv)) {l : List He5.DefA} (h1 : (fnsA He.ga)[i]? = some l := by rfl) (h2 : l[j]? = some (dA a n q st kw) := by rfl) : Fn K n q st (kw.map fun z => (z.1, z.2.v K)) (a K) := c.fA.def_ i j h1 h2
theorem SaysZ.fnB (c : SaysZ w h K) (i j : Nat) (a : PySem.W.Frag → Addr) (n q : Str) (st : Stmt) (kw : List (Str × He.Dv)) {l : List He5.DefA} (h1 : (fnsB He.ga)[i]? = some l := by rfl) (h2 : l[j]? = some (dA a n q st kw) := by rfl) : Fn K n q st (kw.map fun z => (z.1, z.2.v K)) (a K) := c.fB.def_ i j h1 h2
theorem SaysZ.tab (c : SaysZ w h K) (i : Nat) {t : He.Tab} (h1 : (tbs He.ga)[i]? = some t := by rfl) : ∃ es n, KDict K w (t.1 K) es n := by
  have q : ((tbs He.ga).map fun t => He.dicW K (t.1 K))[i]? = ((tbs He.ga).map fun t => some (He.keysIn w.params t.2))[i]? := by rw [c.ts]
  rw [List.getElem?_map, List.getElem?_map, h1] at q
  exact He.dicW_ok (Option.some.inj q)
theorem tx_of (X : K.In h) (G : h.Ns mainGlobals mg) (c : SaysZ w h K) : Tx w K mg := {
    g_is_whole := He.glo_ok X G (c.fact 0 0),
    g_origin := He.glo_ok X G (c.fact 0 1),
    g_add := He.glo_ok X G (c.fact 0 2),
    g_is_name := He.glo_ok X G (c.fact 0 3),
    g_is_within := He.glo_ok X G (c.fact 0 4),
    g_has_form := He.glo_ok X G (c.fact 0 5),
    g_fault := He.glo_ok X G (c.fact 0 6),
    g_check_block := He.glo_ok X G (c.fact 0 7),
    g_inner_blocks := He.glo_ok X G (c.fact 0 8),
    g_statements := He.glo_ok X G (c.fact 0 9),
    g_names_in := He.glo_ok X G (c.fact 0 10),
    g_renamed := He.glo_ok X G (c.fact 0 11),
    g_is_circular := He.glo_ok X G (c.fact 0 12),
    g_measured := He.glo_ok X G (c.fact 0 13),
    g_measures := He.glo_ok X G (c.fact 0 14),
    g_check_measure := He.glo_ok X G (c.fact 0 15),
    g_product := He.glo_ok X G (c.fact 0 16),
    g_term_of := He.glo_ok X G (c.fact 0 17),
    g_statement_trail := He.glo_ok X G (c.fact 0 18),
    g_block_trail := He.glo_ok X G (c.fact 0 19),
    g_trail_of := He.glo_ok X G (c.fact 0 20),
    g_part_trail := He.glo_ok X G (c.fact 0 21),
    g_check_command := He.glo_ok X G (c.fact 0 22),
    g_check_new := He.glo_ok X G (c.fact 0 23),
    g_defined := He.glo_ok X G (c.fact 0 24),
    g_renamed_part := He.glo_ok X G (c.fact 1 0),
    g_dropped := He.glo_ok X G (c.fact 1 1),
    g_changed := He.glo_ok X G (c.fact 1 2),
    g_is_number := He.glo_ok X G (c.fact 1 3),
    g_tokens_of := He.glo_ok X G (c.fact 1 4),
    g_parse_block := He.glo_ok X G (c.fact 1 5),
    g_about_names := He.glo_ok X G (c.fact 1 6),
    g_names_row := He.glo_ok X G (c.fact 1 7),
    g__law_a_box := He.glo_ok X G (c.fact 1 8),
    g__law_draw := He.glo_ok X G (c.fact 1 9),
    g__law_whole := He.glo_ok X G (c.fact 1 10),
    g__law_same := He.glo_ok X G (c.fact 1 11),
    g__law_refused := He.glo_ok X G (c.fact 1 12),
    g_law := He.glo_ok X G (c.fact 1 13),
    g_Parts := He.glo_ok X G (c.fact 1 14),
    g_Effect := He.glo_ok X G (c.fact 1 15),
    g_Trail := He.glo_ok X G (c.fact 1 16),
    g_Book := He.glo_ok X G (c.fact 1 17),
    g_Reader := He.glo_ok X G (c.fact 1 18),
    g_Desk := He.glo_ok X G (c.fact 1 19),
    g_StrewError := He.glo_ok X G (c.fact 1 20),
    g_NotFound := He.glo_ok X G (c.fact 1 21),
    g_NothingLeft := He.glo_ok X G (c.fact 1 22),
    g_CapacityExceeded := He.glo_ok X G (c.fact 1 23),
    g_InvalidName := He.glo_ok X G (c.fact 1 24),
    g_DuplicateName := He.glo_ok X G (c.fact 2 0),
    g_Circular := He.glo_ok X G (c.fact 2 1),
    g_InUse := He.glo_ok X G (c.fact 2 2),
    g_UnknownName := He.glo_ok X G (c.fact 2 3),
    g_TooLong := He.glo_ok X G (c.fact 2 4),
    g_TooDeep := He.glo_ok X G (c.fact 2 5),
    g_TooMany := He.glo_ok X G (c.fact 2 6),
    g_Tangled := He.glo_ok X G (c.fact 2 7),
    g_UnknownWalker := He.glo_ok X G (c.fact 2 8),
    g_InvalidPlace := He.glo_ok X G (c.fact 2 9),
    g_InvalidBlock := He.glo_ok X G (c.fact 2 10),
    g_Overload := He.glo_ok X G (c.fact 2 11),
    g_InvalidBeat := He.glo_ok X G (c.fact 2 12),
    g_InvalidCount := He.glo_ok X G (c.fact 2 13),
    g_WrongDimension := He.glo_ok X G (c.fact 2 14),
    g_ParseError := He.glo_ok X G (c.fact 2 15),
    g_InvalidCommand := He.glo_ok X G (c.fact 2 16),
    n_len := He.free_ok X G (c.fact 2 17),
    n_all := He.free_ok X G (c.fact 2 18),
    n_any := He.free_ok X G (c.fact 2 19),
    n_sum := He.free_ok X G (c.fact 2 20),
    n_max := He.free_ok X G (c.fact 2 21),
    n_min := He.free_ok X G (c.fact 2 22),
    n_sorted := He.free_ok X G (c.fact 2 23),
    n_enumerate := He.free_ok X G (c.fact 2 24),
    n_isinstance := He.free_ok X G (c.fact 3 0),
    n_int := He.free_ok X G (c.fact 3 1),
    n_str := He.free_ok X G (c.fact 3 2),
    n_tuple := He.free_ok X G (c.fact 3 3),
    n_list := He.free_ok X G (c.fact 3 4),
    n_dict := He.free_ok X G (c.fact 3 5),
    n_bool := He.free_ok X G (c.fact 3 6),
    n_range := He.free_ok X G (c.fact 3 7),
    n_zip := He.free_ok X G (c.fact 3 8),
    i_MAX_DIMENSION := (let ⟨t, e⟩ := He.int_ok X G (c.fact 3 9); ⟨_, e, t, rfl⟩),
    i_MAX_STATEMENTS := (let ⟨t, e⟩ := He.int_ok X G (c.fact 3 10); ⟨_, e, t, rfl⟩),
    i_MAX_STEP := (let ⟨t, e⟩ := He.int_ok X G (c.fact 3 11); ⟨_, e, t, rfl⟩),
    i_MAX_TIMES := (let ⟨t, e⟩ := He.int_ok X G (c.fact 3 12); ⟨_, e, t, rfl⟩),
    i_MAX_NAME := (let ⟨t, e⟩ := He.int_ok X G (c.fact 3 13); ⟨_, e, t, rfl⟩),
    i_MAX_PARTS := (let ⟨t, e⟩ := He.int_ok X G (c.fact 3 14); ⟨_, e, t, rfl⟩),
    i_MAX_DEPTH := (let ⟨t, e⟩ := He.int_ok X G (c.fact 3 15); ⟨_, e, t, rfl⟩),
    i_MAX_PUTS := (let ⟨t, e⟩ := He.int_ok X G (c.fact 3 16); ⟨_, e, t, rfl⟩),
    i_MAX_LOOPS := (let ⟨t, e⟩ := He.int_ok X G (c.fact 3 17); ⟨_, e, t, rfl⟩),
    i_MAX_DIGITS := (let ⟨t, e⟩ := He.int_ok X G (c.fact 3 18); ⟨_, e, t, rfl⟩),
    i_MAX_OPEN := (let ⟨t, e⟩ := He.int_ok X G (c.fact 3 19); ⟨_, e, t, rfl⟩),
    s_MARKS := (let ⟨t, e⟩ := He.str_ok X G (c.fact 3 20); ⟨_, e, t, rfl⟩),
    s_FIGURES := (let ⟨t, e⟩ := He.str_ok X G (c.fact 3 21); ⟨_, e, t, rfl⟩),
    f_is_whole := c.fnA 0 0 (fun K => (He.ga K "is_whole")) "is_whole" "is_whole" (topS 26) [],
    f_origin := c.fnA 0 1 (fun K => (He.ga K "origin")) "origin" "origin" (topS 28) [],
    f_add := c.fnA 0 2 (fun K => (He.ga K "add")) "add" "add" (topS 29) [],
    f_is_name := c.fnA 0 3 (fun K => (He.ga K "is_name")) "is_name" "is_name" (topS 38) [],
    f_is_within := c.fnA 0 4 (fun K => (He.ga K "is_within")) "is_within" "is_within" (topS 39) [],
    f_has_form := c.fnA 0 5 (fun K => (He.ga K "has_form")) "has_form" "has_form" (topS 41) [],
    f_fault := c.fnA 0 6 (fun K => (He.ga K "fault")) "fault" "fault" (topS 42) [],
    f_check_block := c.fnA 0 7 (fun K => (He.ga K "check_block")) "check_block" "check_block" (topS 43) [],
    f_inner_blocks := c.fnA 0 8 (fun K => (He.ga K "inner_blocks")) "inner_blocks" "inner_blocks" (topS 46) [],
    f_statements := c.fnA 0 9 (fun K => (He.ga K "statements")) "statements" "statements" (topS 47) [],
    f_names_in := c.fnA 0 10 (fun K => (He.ga K "names_in")) "names_in" "names_in" (topS 48) [],
    f_renamed := c.fnA 0 11 (fun K => (He.ga K "renamed")) "renamed" "renamed" (topS 49) [],
    f_is_circular := c.fnA 0 12 (fun K => (He.ga K "is_circular")) "is_circular" "is_circular" (topS 54) [],
    f_measured := c.fnA 0 13 (fun K => (He.ga K "measured")) "measured" "measured" (topS 55) [],
    f_measures := c.fnA 0 14 (fun K => (He.ga K "measures")) "measures" "measures" (topS 56) [],
    f_check_measure := c.fnA 0 15 (fun K => (He.ga K "check_measure")) "check_measure" "check_measure" (topS 57) [],
    f_Parts__init_ := c.fnA 0 16 (fun K => (He.ma K (He.ga K "Parts") "__init__")) "__init__" "Parts.__init__" (clsS 58 0) [],
    f_Parts_dimension := c.fnA 0 17 (fun K => (He5.wf K (He.ga K "Parts") "property" "dimension")) "dimension" "Parts.dimension" (clsS 58 2) [],
    f_Parts_names := c.fnA 0 18 (fun K => (He.ma K (He.ga K "Parts") "names")) "names" "Parts.names" (clsS 58 3) [],
    f_Parts_blocks := c.fnA 0 19 (fun K => (He.ma K (He.ga K "Parts") "blocks")) "blocks" "Parts.blocks" (clsS 58 4) [],
    f_Parts_block := c.fnA 0 20 (fun K => (He.ma K (He.ga K "Parts") "block")) "block" "Parts.block" (clsS 58 5) [],
    f_Parts_users := c.fnA 0 21 (fun K => (He.ma K (He.ga K "Parts") "users")) "users" "Parts.users" (clsS 58 6) [],
    f_Parts_check_names := c.fnA 0 22 (fun K => (He.ma K (He.ga K "Parts") "check_names")) "check_names" "Parts.check_names" (clsS 58 7) [],
    f_Parts_measure := c.fnA 0 23 (fun K => (He.ma K (He.ga K "Parts") "measure")) "measure" "Parts.measure" (clsS 58 8) [],
    f_Parts_check := c.fnA 0 24 (fun K => (He.ma K (He.ga K "Parts") "check")) "check" "Parts.check" (clsS 58 9) [],
    f_product := c.fnA 1 0 (fun K => (He.ga K "product")) "product" "product" (topS 69) [],
    f_term_of := c.fnA 1 1 (fun K => (He.ga K "term_of")) "term_of" "term_of" (topS 71) [],
    f_Effect__init_ := c.fnA 1 2 (fun K => (He.ma K (He.ga K "Effect") "__init__")) "__init__" "Effect.__init__" (clsS 73 0) [],
    f_Effect_total := c.fnA 1 3 (fun K => (He5.wf K (He.ga K "Effect") "property" "total")) "total" "Effect.total" (clsS 73 5) [],
    f_Trail__init_ := c.fnA 1 4 (fun K => (He.ma K (He.ga K "Trail") "__init__")) "__init__" "Trail.__init__" (clsS 78 0) [],
    f_Trail_still := c.fnA 1 5 (fun K => (He5.wf K (He.ga K "Trail") "staticmethod" "still")) "still" "Trail.still" (clsS 78 1) [],
    f_Trail_put := c.fnA 1 6 (fun K => (He5.wf K (He.ga K "Trail") "staticmethod" "put")) "put" "Trail.put" (clsS 78 3) [],
    f_Trail__mul_ := c.fnA 1 7 (fun K => (He.ma K (He.ga K "Trail") "__mul__")) "__mul__" "Trail.__mul__" (clsS 78 8) [],
    f_Trail_effect := c.fnA 1 8 (fun K => (He.ma K (He.ga K "Trail") "effect")) "effect" "Trail.effect" (clsS 78 11) [],
    f_statement_trail := c.fnA 1 9 (fun K => (He.ga K "statement_trail")) "statement_trail" "statement_trail" (topS 79) [],
    f_block_trail := c.fnA 1 10 (fun K => (He.ga K "block_trail")) "block_trail" "block_trail" (topS 80) [],
    f_trail_of := c.fnA 1 11 (fun K => (He.ga K "trail_of")) "trail_of" "trail_of" (topS 81) [],
    f_part_trail := c.fnA 1 12 (fun K => (He.ga K "part_trail")) "part_trail" "part_trail" (topS 82) [("back", .bl false)],
    f_check_command := c.fnA 1 13 (fun K => (He.ga K "check_command")) "check_command" "check_command" (topS 85) [],
    f_check_new := c.fnA 1 14 (fun K => (He.ga K "check_new")) "check_new" "check_new" (topS 86) [],
    f_defined := c.fnA 1 15 (fun K => (He.ga K "defined")) "defined" "defined" (topS 87) [],
    f_renamed_part := c.fnA 1 16 (fun K => (He.ga K "renamed_part")) "renamed_part" "renamed_part" (topS 89) [],
    f_dropped := c.fnA 1 17 (fun K => (He.ga K "dropped")) "dropped" "dropped" (topS 90) [],
    f_changed := c.fnA 1 18 (fun K => (He.ga K "changed")) "changed" "changed" (topS 91) [],
    f_Book__init_ := c.fnA 1 19 (fun K => (He.ma K (He.ga K "Book") "__init__")) "__init__" "Book.__init__" (clsS 92 0) [],
    f_Book__len_ := c.fnA 1 20 (fun K => (He.ma K (He.ga K "Book") "__len__")) "__len__" "Book.__len__" (clsS 92 3) [],
    f_Book_parts := c.fnA 1 21 (fun K => (He5.wf K (He.ga K "Book") "property" "parts")) "parts" "Book.parts" (clsS 92 5) [],
    f_Book_become := c.fnA 1 22 (fun K => (He.ma K (He.ga K "Book") "become")) "become" "Book.become" (clsS 92 6) [],
    f_Book_step := c.fnA 1 23 (fun K => (He.ma K (He.ga K "Book") "step")) "step" "Book.step" (clsS 92 7) [],
    f_Book_apply := c.fnA 1 24 (fun K => (He.ma K (He.ga K "Book") "apply")) "apply" "Book.apply" (clsS 92 8) [],
    f_Book_apply_all := c.fnB 0 0 (fun K => (He.ma K (He.ga K "Book") "apply_all")) "apply_all" "Book.apply_all" (clsS 92 9) [],
    f_Book_undo := c.fnB 0 1 (fun K => (He.ma K (He.ga K "Book") "undo")) "undo" "Book.undo" (clsS 92 14) [],
    f_Book_history := c.fnB 0 2 (fun K => (He.ma K (He.ga K "Book") "history")) "history" "Book.history" (clsS 92 16) [],
    f_Book_trail := c.fnB 0 3 (fun K => (He.ma K (He.ga K "Book") "trail")) "trail" "Book.trail" (clsS 92 17) [],
    f_is_number := c.fnB 0 4 (fun K => (He.ga K "is_number")) "is_number" "is_number" (topS 114) [],
    f_tokens_of := c.fnB 0 5 (fun K => (He.ga K "tokens_of")) "tokens_of" "tokens_of" (topS 115) [],
    f_Reader__init_ := c.fnB 0 6 (fun K => (He.ma K (He.ga K "Reader") "__init__")) "__init__" "Reader.__init__" (clsS 116 0) [],
    f_Reader_peek := c.fnB 0 7 (fun K => (He.ma K (He.ga K "Reader") "peek")) "peek" "Reader.peek" (clsS 116 1) [],
    f_Reader_take := c.fnB 0 8 (fun K => (He.ma K (He.ga K "Reader") "take")) "take" "Reader.take" (clsS 116 3) [],
    f_Reader_read_number := c.fnB 0 9 (fun K => (He.ma K (He.ga K "Reader") "read_number")) "read_number" "Reader.read_number" (clsS 116 4) [],
    f_Reader_read_statement := c.fnB 0 10 (fun K => (He.ma K (He.ga K "Reader") "read_statement")) "read_statement" "Reader.read_statement" (clsS 116 6) [],
    f_Reader_read_block := c.fnB 0 11 (fun K => (He.ma K (He.ga K "Reader") "read_block")) "read_block" "Reader.read_block" (clsS 116 7) [],
    f_parse_block := c.fnB 0 12 (fun K => (He.ga K "parse_block")) "parse_block" "parse_block" (topS 117) [],
    f_about_names := c.fnB 0 13 (fun K => (He.ga K "about_names")) "about_names" "about_names" (topS 121) [],
    f_names_row := c.fnB 0 14 (fun K => (He.ga K "names_row")) "names_row" "names_row" (topS 123) [],
    f_Desk__init_ := c.fnB 0 15 (fun K => (He.ma K (He.ga K "Desk") "__init__")) "__init__" "Desk.__init__" (clsS 124 0) [("book", .non), ("dimension", .int 2)],
    f_Desk_ask := c.fnB 0 16 (fun K => (He.ma K (He.ga K "Desk") "ask")) "ask" "Desk.ask" (clsS 124 2) [],
    f_Desk_written := c.fnB 0 17 (fun K => (He.ma K (He.ga K "Desk") "written")) "written" "Desk.written" (clsS 124 3) [],
    f_Desk_answered := c.fnB 0 18 (fun K => (He.ma K (He.ga K "Desk") "answered")) "answered" "Desk.answered" (clsS 124 4) [],
    f__law_a_box := c.fnB 0 19 (fun K => (He.ga K "_law_a_box")) "_law_a_box" "_law_a_box" (topS 126) [],
    f__law_draw := c.fnB 0 20 (fun K => (He.ga K "_law_draw")) "_law_draw" "_law_draw" (topS 127) [],
    f__law_whole := c.fnB 0 21 (fun K => (He.ga K "_law_whole")) "_law_whole" "_law_whole" (topS 128) [],
    f__law_same := c.fnB 0 22 (fun K => (He.ga K "_law_same")) "_law_same" "_law_same" (topS 129) [],
    f__law_refused := c.fnB 0 23 (fun K => (He.ga K "_law_refused")) "_law_refused" "_law_refused" (topS 130) [],
    f_law := c.fnB 0 24 (fun K => (He.ga K "law")) "law" "law" (topS 131) [],
    f_CapacityExceeded__init_ := c.fnB 1 0 (fun K => (He.ma K (He.ga K "CapacityExceeded") "__init__")) "__init__" "CapacityExceeded.__init__" (clsS 8 0) [],
    c_Parts := He.cls_ok (c.fact 3 22),
    m_Parts := He.mkr_ok (c.fact 3 23),
    a_Parts_ground := He.noat_ok (c.fact 3 24),
    a_Parts_kept := He.noat_ok (c.fact 4 0),
    a_Parts_known := He.noat_ok (c.fact 4 1),
    c_Effect := He.cls_ok (c.fact 4 2),
    m_Effect := He.mkr_ok (c.fact 4 3),
    a_Effect_ground := He.noat_ok (c.fact 4 4),
    a_Effect_way := He.noat_ok (c.fact 4 5),
    a_Effect_rows := He.noat_ok (c.fact 4 6),
    c_Trail := He.cls_ok (c.fact 4 7),
    m_Trail := He.mkr_ok (c.fact 4 8),
    a_Trail_ground := He.noat_ok (c.fact 4 9),
    a_Trail_length := He.noat_ok (c.fact 4 10),
    a_Trail_way := He.noat_ok (c.fact 4 11),
    a_Trail_rows := He.noat_ok (c.fact 4 12),
    c_Book := He.cls_ok (c.fact 4 13),
    m_Book := He.mkr_ok (c.fact 4 14),
    a_Book_now := He.noat_ok (c.fact 4 15),
    a_Book_past := He.noat_ok (c.fact 4 16),
    a_Book_future := He.noat_ok (c.fact 4 17),
    a_Book_key := He.noat_ok (c.fact 4 18),
    c_Reader := He.cls_ok (c.fact 4 19),
    m_Reader := He.mkr_ok (c.fact 4 20),
    a_Reader_tokens := He.noat_ok (c.fact 4 21),
    a_Reader_size := He.noat_ok (c.fact 4 22),
    a_Reader_ground := He.noat_ok (c.fact 4 23),
    a_Reader_at := He.noat_ok (c.fact 4 24),
    a_Reader_opened := He.noat_ok (c.fact 5 0),
    c_Desk := He.cls_ok (c.fact 5 1),
    m_Desk := He.mkr_ok (c.fact 5 2),
    a_Desk_shelf := He.noat_ok (c.fact 5 3),
    p_Parts_dimension := propB_ok (c.extra 0),
    t_Parts_names := He.meth_ok (c.fact 5 4),
    t_Parts_blocks := He.meth_ok (c.fact 5 5),
    t_Parts_block := He.meth_ok (c.fact 5 6),
    t_Parts_users := He.meth_ok (c.fact 5 7),
    t_Parts_check_names := He.meth_ok (c.fact 5 8),
    t_Parts_measure := He.meth_ok (c.fact 5 9),
    t_Parts_check := He.meth_ok (c.fact 5 10),
    p_Effect_total := propB_ok (c.extra 1),
    st_Trail_still := statB_ok (c.extra 2),
    st_Trail_put := statB_ok (c.extra 3),
    t_Trail_effect := He.meth_ok (c.fact 5 11),
    p_Book_parts := propB_ok (c.extra 4),
    t_Book_become := He.meth_ok (c.fact 5 12),
    t_Book_step := He.meth_ok (c.fact 5 13),
    t_Book_apply := He.meth_ok (c.fact 5 14),
    t_Book_apply_all := He.meth_ok (c.fact 5 15),
    t_Book_undo := He.meth_ok (c.fact 5 16),
    t_Book_history := He.meth_ok (c.fact 5 17),
    t_Book_trail := He.meth_ok (c.fact 5 18),
    t_Reader_peek := He.meth_ok (c.fact 5 19),
    t_Reader_take := He.meth_ok (c.fact 5 20),
    t_Reader_read_number := He.meth_ok (c.fact 5 21),
    t_Reader_read_statement := He.meth_ok (c.fact 5 22),
    t_Reader_read_block := He.meth_ok (c.fact 5 23),
    t_Desk_ask := He.meth_ok (c.fact 5 24),
    t_Desk_written := He.meth_ok (c.fact 6 0),
    t_Desk_answered := He.meth_ok (c.fact 6 1),
    x_oex := oexB_ok (c.extra 5),
    x_ini := (He.meth_ok (c.fact 6 2)).at_,
    x_ty := beq_iff_eq.mp (He.meth_ok (c.fact 6 3)).fn,
    x_capacity := He.noat_ok (c.fact 6 4),
    x_tag := He.noat_ok (c.fact 6 5),
    x_xf := xfB_ok (c.extra 6),
    e_InvalidName := He.exm_ok (c.fact 6 6),
    e_DuplicateName := He.exm_ok (c.fact 6 7),
    e_Circular := He.exm_ok (c.fact 6 8),
    e_InUse := He.exm_ok (c.fact 6 9),
    e_UnknownName := He.exm_ok (c.fact 6 10),
    e_InvalidPlace := He.exm_ok (c.fact 6 11),
    e_InvalidBlock := He.exm_ok (c.fact 6 12),
    e_CapacityExceeded := He.exm_ok (c.fact 6 13),
    e_long := of_decide_eq_true (c.extra 7),
    e_tangled := of_decide_eq_true (c.extra 8),
    e_strew := of_decide_eq_true (c.extra 9),
    g_LENGTHS := He.glo_ok X G (c.fact 6 14),
    d_LENGTHS := (c.tab 0),
    g_COUNTS := He.glo_ok X G (c.fact 6 15),
    d_COUNTS := (c.tab 1),
    v_LENGTHS := vals_ok (c.extra 10) rfl,
    v_COUNTS := vals_ok (c.extra 11) rfl,
    o_Trail := ⟨(c.extra 12), (He.meth_ok (c.fact 6 16)).at_, (He.meth_ok (c.fact 6 16)).fn⟩,
    l_Book := ⟨(He.meth_ok (c.fact 6 17)).at_, (He.meth_ok (c.fact 6 17)).fn⟩ }
end
end Sf
/-! ### the end -/
namespace Sf
open PySem PySem.Spec PyProof.Rows L2
theorem law_at {w : World} {h : Heap} {K : PySem.W.Frag} {mg : Str → Option Value} {fa : Addr} (X : K.In h) (G : h.Ns mainGlobals mg) (c : SaysZ w h K) (hfa : mg ("law" : Str) = some (.ref fa)) :
    LamX.LawAtS PySem.Challenge.rw_strewfar_k70_whole_full_books w K (L2.CX (PySem.Challenge.rw_strewfar_k70_whole_full_books).prog w) 41 63 "_law_script" mg fa h := by
  have T := tx_of X G c
  have e := hfa.symm.trans T.g_law
  cases e
  obtain ⟨fd, F⟩ := T.f_law
  have b := FunD.bindsA (ps := ["_law_script"]) F fun _ _ _ _ _ _ us hl => match us, hl with | [_], _ => rfl
  obtain ⟨oc, od, dV, kV, doc, pm, an, cdv, ct, osl, rfl, lk, hcd, _, _⟩ := F.ex
  obtain ⟨cc, rfl⟩ := He.codeIn_ref hcd
  have hc : He.codeOf K (("law" : Str), none) = cc := He.codeOf_eq (p := (("law" : Str), none)) lk rfl
  refine ⟨_, [lawT K], sp_law K (lawT K).2, fun p hp => ?_, fun p hp => ?_, fun p hp => ?_, fun s v => b s [v] rfl, fun H a ns hl _ hT hS => ⟨a, ns, rfl, hS, hl, hT _ List.mem_cons_self, fun _ => rfl⟩, fun base _ _ TB => ?_⟩
  · rw [List.mem_singleton.mp hp]
    exact c.empty
  · rw [List.mem_singleton.mp hp]
    exact c.out
  · rw [List.mem_singleton.mp hp]
    exact PySem.W.codeHd_of_K X c.hd
  · have tb := TB _ List.mem_cons_self
    rw [show (lawT K).1 = cc from hc] at tb
    exact ok_law T lk hcd tb
end Sf
namespace Sf
open PySem PySem.W PySem.Calls PyProof.Rows HandSHeadRun
theorem runZ {w : World} (a : EqA w) (b : EqB w) (c : EqC w) : RunEq R qv hkZ (fun s => obZ (getT s)) 13500 names w := fun os => by
  have a : Option.map _ (endF (stepQ (denQ tabQ) R.prog w) 13500 R.prog w os) = _ := a os
  have b : Option.map _ (endF (stepQ (denQ tabQ) R.prog w) 13500 R.prog w os) = _ := b os
  have c : Option.map _ (endF (stepQ (denQ tabQ) R.prog w) 13500 R.prog w os) = _ := c os
  cases e : endF (stepQ (denQ tabQ) R.prog w) 13500 R.prog w os with
  | none =>
    rw [e] at b
    cases b
  | some s =>
    rw [e] at a b c
    have a0 := Option.some.inj a
    have b0 := Option.some.inj b
    have c0 := Option.some.inj c
    have a1 : looksF R.prog (boot_heap w.params) s.abs = true := congrArg (fun q : Bool × Bool => q.1) a0
    have a2 : obsX (gaN nsF) (getT s) (KZ (getT s)) = true := congrArg (fun q : Bool × Bool => q.2) a0
    have b1 : seenQ qv names (importedModules R.prog.main.body) (fun s => xlAt qv [] s && recOk R.toRowW.records s) s.abs = openGood qv names := congrArg (fun q : _ × AlF => q.1) b0
    have b2 : obsF okF (fnsB (gaN nsF)) (KZ (getT s)) = valF (fnsB (gaN nsF)) := congrArg (fun q : _ × AlF => q.2) b0
    have c1 : obsG nsF (gaN nsF) (KZ (getT s)) = true := congrArg (fun q : Bool × AlF × List (Option (List (Option (PySem.Str × Int)))) => q.1) c0
    have c2 : obsF okF (fnsA (gaN nsF)) (KZ (getT s)) = valF (fnsA (gaN nsF)) := congrArg (fun q : Bool × AlF × List (Option (List (Option (PySem.Str × Int)))) => q.2.1) c0
    have c3 : obsD (gaN nsF) (KZ (getT s)) = valD (gaN nsF) w := congrArg (fun q : Bool × AlF × List (Option (List (Option (PySem.Str × Int)))) => q.2.2) c0
    rw [gaF_eq] at a2 b2 c1 c2 c3
    rw [nsF_eq] at c1
    rw [okF_eq] at b2 c2
    have z : obZ (getT s) = valZ w := by
      show (obsG PySem.W.nsIn He.ga (KZ (getT s)) && obsX He.ga (getT s) (KZ (getT s)), obsF He5.DefA.ok (fnsA He.ga) (KZ (getT s)), obsF He5.DefA.ok (fnsB He.ga) (KZ (getT s)), obsD He.ga (KZ (getT s))) = (true, valF (fnsA He.ga), valF (fnsB He.ga), valD He.ga w)
      rw [a2, b2, c1, c2, c3]
      rfl
    show some (looksF R.prog (boot_heap w.params) s.abs, seenQ qv names (importedModules R.prog.main.body) (fun s => xlAt qv [] s && recOk R.toRowW.records s) s.abs, obZ (getT s)) = some (true, openGood qv names, valZ w)
    rw [a1, b1, z]
theorem run_all (w : World) : RunEq R qv hkZ (fun s => obZ (getT s)) 13500 names w :=
  byRow2 "special-get-raises" (P := fun w => RunEq R qv hkZ (fun s => obZ (getT s)) 13500 names w) (fun w => runZ (runA0 w) (runB0 w) (runC0 w)) (fun w => runZ (runA1 w) (runB1 w) (runC1 w)) w
end Sf
open PySem PySem.W PySem.Calls PyProof.Rows
set_option maxHeartbeats 0 in
theorem PySem.Challenge.cw_strewfar_k70_whole_full_books_holds : PySem.Challenge.rw_strewfar_k70_whole_full_books.Holds := by
  w_on; o_law
  refine HandSHeadRun.head_any (r := Sf.R) (q := Sf.qv) (H := Sf.hkZ) (ob := fun s => Sf.obZ (HandSHeadRun.getT s)) (M := 13500) (loose := Sf.names) (d := HandSHeadRun.topDef Sf.R.prog 131) (kwd := []) Sf.obZ_eq
    (by kernel_rfl) (fun s => by kernel_rfl) Sf.run_all (by kernel_rfl) (by kernel_rfl) (by kernel_rfl) (by rfl) (by first | assumption | decide +kernel) (by decide +kernel) ⟨rfl, rfl, rfl, rfl, rfl, by decide +kernel⟩ ?hw ?hc
  case hw => w_witness2
  case hc =>
    refine LamX.walk_ofTsE (l := PySem.Challenge.rw_strewfar_k70_whole_full_books) (n := 63) (k := 41) (x := "_law_script") (CX := fun w => L2.CX (PySem.Challenge.rw_strewfar_k70_whole_full_books).prog w) rfl (by decide) (by kernel_rfl) ⟨rfl, by decide, by decide⟩ ?F ?E
    case E =>
      intro w H s e s' z
      obtain ⟨_, _, _, _, _, _, _, _, _, _, _, _, z⟩ := z
      exact z
    case F =>
      intro w mg fa h Y G hmg0
      obtain ⟨K, KX, c⟩ := Y
      have hmg : mg ("law" : PySem.Str) = some (.ref fa) := by
        have e : (HandSHeadRun.topDef Sf.R.prog 131).name = ("law" : PySem.Str) := by kernel_rfl
        rw [← e]
        exact hmg0
      exact ⟨K, KX, Sf.law_at KX G c hmg⟩
