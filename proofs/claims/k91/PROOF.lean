import PyProof.Rows.All
import Wide.All
import OpenK.AllK
import Wide.FinOn
import PyProof.EqAt
import PyProof.EqKinds
import PyProof.TupleCall
import KE.KStateDown
import KE.KLam
import KE.KSuper
import KE.KOpsOwn
import KE.KCallOwn
import KE.KOwnIter
import HandS.ForMost
import HandS.Exc
import HandS.ExcOwn
import HandS.TryOnly
import HandS.ExcInit
import HandS.ExcIs
import HandS.ExcField
import HandS.WordsExc
import HandS.More
import HandS.IsInst
import HandS.Property
import HandS.ClsMeth
import HandS.DictComp
import HandS.Style
import HandS.Flow
import HandS.Walk
import HandS.IterNext
import HandS.IterVal
import HandS.NoneIn
import HandS.StrMore
import HandS.Evl
import HandS.Head0
import HandS.Head1
import HandS.Head2
import HandS.HeadEnd
import HandS.HeadHook1
import HandS.TupAny
import HandS.Zip
import HandS.Conv
import KE.GoesNew
import HandS.OwnIter
import KE.KAssignIn
import KE.KExcIs
import HandS.Steps
import HandS.Nested
import HandS.Strs
import PyProof.P3Eq
import HandS.HeadWalk
import PySem.Challenge.RW_datelessrolls_k91_whole_either_or
set_option Elab.async false
set_option linter.all false
set_option maxRecDepth 100000
set_option maxHeartbeats 4000000
/-! the text by places, the facts of the top -/
namespace DR
open PySem PySem.Spec PyProof.Rows L2
open PySem.W (Frag)
def top (i : Nat) : Stmt := PySem.Challenge.pw_datelessrolls_k91_whole_either_or.main.body.getD i (.Pass ⟨0, 0, 0, 0⟩)
/-! ### addresses by names -/
def gA (K : Frag) (x : Str) : Addr := He.ga K x
def mA (K : Frag) (c m : Str) : Addr := He.ma K (gA K c) m
def recA (K : Frag) (T : String) (p : Addr) : Addr := match PySem.W.recIn K p T with
  | some (.ref g :: _) => g
  | _ => 0
def sA (K : Frag) (c m : Str) : Addr := recA K "staticmethod" (mA K c m)
def pA (K : Frag) (c m : Str) : Addr := recA K "property" (mA K c m)
def noFd : FuncData := PySem.W.fnOf "" "" ⟨[], [], none, [], [], none, []⟩ [] ⟨.function, [], false, false, []⟩ .none .none .none .none none .none .none
def fdOf (K : Frag) (a : Addr) : FuncData := match K.lookup a with
  | some ⟨_, _, .func fd, _⟩ => fd
  | _ => noFd
structure DD where
  path : Frag → Addr
  name : Str
  qual : Str
  st : Stmt
abbrev s_check_stretch : Stmt := top 21
abbrev s_check_window : Stmt := top 22
abbrev s_check_stands : Stmt := top 23
abbrev s_check_signs : Stmt := top 24
abbrev s_check_like : Stmt := top 25
abbrev s_before_of_text : Stmt := top 28
abbrev s_text_of_before : Stmt := top 29
abbrev s_count_in : Stmt := top 30
abbrev s_count_rows : Stmt := top 31
abbrev s_before_of_rows : Stmt := top 32
abbrev s_step_before : Stmt := top 33
abbrev s_product_before : Stmt := top 34
abbrev s_check_text : Stmt := top 41
abbrev s_check_window_size : Stmt := top 42
abbrev s_stands_in : Stmt := top 46
abbrev s_coat_of_entries : Stmt := top 47
abbrev s_sign_coat : Stmt := top 48
abbrev s_closed_kinds : Stmt := top 50
abbrev s_parts_of : Stmt := top 55
abbrev s_check_inside : Stmt := top 61
abbrev s_breaker : Stmt := top 64
abbrev s_keeps_window : Stmt := top 67
abbrev s_decide : Stmt := top 70
abbrev s_is_rising : Stmt := top 73
abbrev s_law_begin : Stmt := top 76
abbrev s_law_draw : Stmt := top 77
abbrev s_law_stands : Stmt := top 78
abbrev s_law_words : Stmt := top 79
abbrev s_law_counts : Stmt := top 80
abbrev s_law_shows : Stmt := top 81
abbrev s_law_colours : Stmt := top 82
abbrev s_law_coat_text : Stmt := top 83
abbrev s_law_page_coat : Stmt := top 84
abbrev s_law_coat_product : Stmt := top 85
abbrev s_law_closure : Stmt := top 86
abbrev s_law_tree : Stmt := top 87
abbrev s_law_says : Stmt := top 88
abbrev s_law_saying : Stmt := top 89
abbrev s_law_closed : Stmt := top 90
abbrev s_law_drawn_page : Stmt := top 91
abbrev s_law_drawn_list : Stmt := top 92
abbrev s_law_refused : Stmt := top 93
abbrev s_law_refusals : Stmt := top 94
abbrev s_law_page_judged : Stmt := top 95
abbrev s_law_list_judged : Stmt := top 96
abbrev s_law_either_or : Stmt := top 97
abbrev s_law : Stmt := top 98
abbrev s_Coat_init : Stmt := inClass (top 44) 1
abbrev s_Coat_plain : Stmt := inClass (top 44) 2
abbrev s_Coat_entry : Stmt := inClass (top 44) 4
abbrev s_Coat_text : Stmt := inClass (top 44) 5
abbrev s_Coat_places : Stmt := inClass (top 44) 7
abbrev s_Coat_count : Stmt := inClass (top 44) 9
abbrev s_Coat_mul : Stmt := inClass (top 44) 11
abbrev s_Coat_eq : Stmt := inClass (top 44) 17
abbrev s_Kinds_init : Stmt := inClass (top 51) 0
abbrev s_Kinds_page_of : Stmt := inClass (top 51) 1
abbrev s_Kinds_len : Stmt := inClass (top 51) 5
abbrev s_Kinds_iter : Stmt := inClass (top 51) 6
abbrev s_Saying_init : Stmt := inClass (top 62) 0
abbrev s_Saying_least : Stmt := inClass (top 62) 1
abbrev s_Saying_stretches : Stmt := inClass (top 62) 4
abbrev s_Saying_moved : Stmt := inClass (top 62) 5
abbrev s_Saying_call : Stmt := inClass (top 62) 6
abbrev s_Saying_and : Stmt := inClass (top 62) 7
abbrev s_Saying_or : Stmt := inClass (top 62) 8
abbrev s_Saying_invert : Stmt := inClass (top 62) 9
abbrev s_Certificate_claim : Stmt := inClass (top 66) 1
abbrev s_PageCertificate_init : Stmt := inClass (top 68) 0
abbrev s_PageCertificate_judged : Stmt := inClass (top 68) 2
abbrev s_ListCertificate_init : Stmt := inClass (top 69) 0
abbrev s_ListCertificate_judged : Stmt := inClass (top 69) 2
abbrev s_Calendar_init : Stmt := inClass (top 74) 0
abbrev s_Calendar_places : Stmt := inClass (top 74) 4
abbrev s_Calendar_signs : Stmt := inClass (top 74) 5
abbrev s_Calendar_stands : Stmt := inClass (top 74) 6
abbrev s_Calendar_len : Stmt := inClass (top 74) 12
abbrev s_BadStretch_init : Stmt := inClass (top 4) 0
abbrev s_TooLong_init : Stmt := inClass (top 5) 0
abbrev s_OutOfWindow_init : Stmt := inClass (top 6) 0
abbrev s_BadSigns_init : Stmt := inClass (top 14) 0
def dds0 : List DD := [
  ⟨(fun K => gA K "check_stretch"), "check_stretch", "check_stretch", s_check_stretch⟩,
  ⟨(fun K => gA K "check_window"), "check_window", "check_window", s_check_window⟩,
  ⟨(fun K => gA K "check_stands"), "check_stands", "check_stands", s_check_stands⟩,
  ⟨(fun K => gA K "check_signs"), "check_signs", "check_signs", s_check_signs⟩,
  ⟨(fun K => gA K "check_like"), "check_like", "check_like", s_check_like⟩,
  ⟨(fun K => gA K "before_of_text"), "before_of_text", "before_of_text", s_before_of_text⟩,
  ⟨(fun K => gA K "text_of_before"), "text_of_before", "text_of_before", s_text_of_before⟩,
  ⟨(fun K => gA K "count_in"), "count_in", "count_in", s_count_in⟩,
  ⟨(fun K => gA K "count_rows"), "count_rows", "count_rows", s_count_rows⟩,
  ⟨(fun K => gA K "before_of_rows"), "before_of_rows", "before_of_rows", s_before_of_rows⟩,
  ⟨(fun K => gA K "step_before"), "step_before", "step_before", s_step_before⟩,
  ⟨(fun K => gA K "product_before"), "product_before", "product_before", s_product_before⟩,
  ⟨(fun K => gA K "check_text"), "check_text", "check_text", s_check_text⟩,
  ⟨(fun K => gA K "check_window_size"), "check_window_size", "check_window_size", s_check_window_size⟩,
  ⟨(fun K => gA K "stands_in"), "stands_in", "stands_in", s_stands_in⟩,
  ⟨(fun K => gA K "coat_of_entries"), "coat_of_entries", "coat_of_entries", s_coat_of_entries⟩,
  ⟨(fun K => gA K "sign_coat"), "sign_coat", "sign_coat", s_sign_coat⟩,
  ⟨(fun K => gA K "closed_kinds"), "closed_kinds", "closed_kinds", s_closed_kinds⟩,
  ⟨(fun K => gA K "parts_of"), "parts_of", "parts_of", s_parts_of⟩,
  ⟨(fun K => gA K "check_inside"), "check_inside", "check_inside", s_check_inside⟩,
  ⟨(fun K => gA K "breaker"), "breaker", "breaker", s_breaker⟩,
  ⟨(fun K => gA K "keeps_window"), "keeps_window", "keeps_window", s_keeps_window⟩,
  ⟨(fun K => gA K "decide"), "decide", "decide", s_decide⟩,
  ⟨(fun K => gA K "is_rising"), "is_rising", "is_rising", s_is_rising⟩,
  ⟨(fun K => gA K "_law_begin"), "_law_begin", "_law_begin", s_law_begin⟩]
def dds1 : List DD := [
  ⟨(fun K => gA K "_law_draw"), "_law_draw", "_law_draw", s_law_draw⟩,
  ⟨(fun K => gA K "_law_stands"), "_law_stands", "_law_stands", s_law_stands⟩,
  ⟨(fun K => gA K "_law_words"), "_law_words", "_law_words", s_law_words⟩,
  ⟨(fun K => gA K "_law_counts"), "_law_counts", "_law_counts", s_law_counts⟩,
  ⟨(fun K => gA K "_law_shows"), "_law_shows", "_law_shows", s_law_shows⟩,
  ⟨(fun K => gA K "_law_colours"), "_law_colours", "_law_colours", s_law_colours⟩,
  ⟨(fun K => gA K "_law_coat_text"), "_law_coat_text", "_law_coat_text", s_law_coat_text⟩,
  ⟨(fun K => gA K "_law_page_coat"), "_law_page_coat", "_law_page_coat", s_law_page_coat⟩,
  ⟨(fun K => gA K "_law_coat_product"), "_law_coat_product", "_law_coat_product", s_law_coat_product⟩,
  ⟨(fun K => gA K "_law_closure"), "_law_closure", "_law_closure", s_law_closure⟩,
  ⟨(fun K => gA K "_law_tree"), "_law_tree", "_law_tree", s_law_tree⟩,
  ⟨(fun K => gA K "_law_says"), "_law_says", "_law_says", s_law_says⟩,
  ⟨(fun K => gA K "_law_saying"), "_law_saying", "_law_saying", s_law_saying⟩,
  ⟨(fun K => gA K "_law_closed"), "_law_closed", "_law_closed", s_law_closed⟩,
  ⟨(fun K => gA K "_law_drawn_page"), "_law_drawn_page", "_law_drawn_page", s_law_drawn_page⟩,
  ⟨(fun K => gA K "_law_drawn_list"), "_law_drawn_list", "_law_drawn_list", s_law_drawn_list⟩,
  ⟨(fun K => gA K "_law_refused"), "_law_refused", "_law_refused", s_law_refused⟩,
  ⟨(fun K => gA K "_law_refusals"), "_law_refusals", "_law_refusals", s_law_refusals⟩,
  ⟨(fun K => gA K "_law_page_judged"), "_law_page_judged", "_law_page_judged", s_law_page_judged⟩,
  ⟨(fun K => gA K "_law_list_judged"), "_law_list_judged", "_law_list_judged", s_law_list_judged⟩,
  ⟨(fun K => gA K "_law_either_or"), "_law_either_or", "_law_either_or", s_law_either_or⟩,
  ⟨(fun K => gA K "law"), "law", "law", s_law⟩,
  ⟨(fun K => mA K "Coat" "__init__"), "__init__", "Coat.__init__", s_Coat_init⟩,
  ⟨(fun K => sA K "Coat" "plain"), "plain", "Coat.plain", s_Coat_plain⟩,
  ⟨(fun K => sA K "Coat" "entry"), "entry", "Coat.entry", s_Coat_entry⟩]
def dds2 : List DD := [
  ⟨(fun K => mA K "Coat" "text"), "text", "Coat.text", s_Coat_text⟩,
  ⟨(fun K => pA K "Coat" "places"), "places", "Coat.places", s_Coat_places⟩,
  ⟨(fun K => mA K "Coat" "count"), "count", "Coat.count", s_Coat_count⟩,
  ⟨(fun K => mA K "Coat" "__mul__"), "__mul__", "Coat.__mul__", s_Coat_mul⟩,
  ⟨(fun K => mA K "Coat" "__eq__"), "__eq__", "Coat.__eq__", s_Coat_eq⟩,
  ⟨(fun K => mA K "Kinds" "__init__"), "__init__", "Kinds.__init__", s_Kinds_init⟩,
  ⟨(fun K => mA K "Kinds" "page_of"), "page_of", "Kinds.page_of", s_Kinds_page_of⟩,
  ⟨(fun K => mA K "Kinds" "__len__"), "__len__", "Kinds.__len__", s_Kinds_len⟩,
  ⟨(fun K => mA K "Kinds" "__iter__"), "__iter__", "Kinds.__iter__", s_Kinds_iter⟩,
  ⟨(fun K => mA K "Saying" "__init__"), "__init__", "Saying.__init__", s_Saying_init⟩,
  ⟨(fun K => sA K "Saying" "least"), "least", "Saying.least", s_Saying_least⟩,
  ⟨(fun K => mA K "Saying" "stretches"), "stretches", "Saying.stretches", s_Saying_stretches⟩,
  ⟨(fun K => mA K "Saying" "moved"), "moved", "Saying.moved", s_Saying_moved⟩,
  ⟨(fun K => mA K "Saying" "__call__"), "__call__", "Saying.__call__", s_Saying_call⟩,
  ⟨(fun K => mA K "Saying" "__and__"), "__and__", "Saying.__and__", s_Saying_and⟩,
  ⟨(fun K => mA K "Saying" "__or__"), "__or__", "Saying.__or__", s_Saying_or⟩,
  ⟨(fun K => mA K "Saying" "__invert__"), "__invert__", "Saying.__invert__", s_Saying_invert⟩,
  ⟨(fun K => mA K "Certificate" "claim"), "claim", "Certificate.claim", s_Certificate_claim⟩,
  ⟨(fun K => mA K "PageCertificate" "__init__"), "__init__", "PageCertificate.__init__", s_PageCertificate_init⟩,
  ⟨(fun K => mA K "PageCertificate" "judged"), "judged", "PageCertificate.judged", s_PageCertificate_judged⟩,
  ⟨(fun K => mA K "ListCertificate" "__init__"), "__init__", "ListCertificate.__init__", s_ListCertificate_init⟩,
  ⟨(fun K => mA K "ListCertificate" "judged"), "judged", "ListCertificate.judged", s_ListCertificate_judged⟩,
  ⟨(fun K => mA K "Calendar" "__init__"), "__init__", "Calendar.__init__", s_Calendar_init⟩,
  ⟨(fun K => pA K "Calendar" "places"), "places", "Calendar.places", s_Calendar_places⟩,
  ⟨(fun K => pA K "Calendar" "signs"), "signs", "Calendar.signs", s_Calendar_signs⟩]
def dds3 : List DD := [
  ⟨(fun K => mA K "Calendar" "stands"), "stands", "Calendar.stands", s_Calendar_stands⟩,
  ⟨(fun K => mA K "Calendar" "__len__"), "__len__", "Calendar.__len__", s_Calendar_len⟩,
  ⟨(fun K => mA K "BadStretch" "__init__"), "__init__", "BadStretch.__init__", s_BadStretch_init⟩,
  ⟨(fun K => mA K "TooLong" "__init__"), "__init__", "TooLong.__init__", s_TooLong_init⟩,
  ⟨(fun K => mA K "OutOfWindow" "__init__"), "__init__", "OutOfWindow.__init__", s_OutOfWindow_init⟩,
  ⟨(fun K => mA K "BadSigns" "__init__"), "__init__", "BadSigns.__init__", s_BadSigns_init⟩]
def dds : List DD := dds0 ++ dds1 ++ dds2 ++ dds3
/-! places in dds: 0:check_stretch 1:check_window 2:check_stands 3:check_signs 4:check_like 5:before_of_text 6:text_of_before 7:count_in 8:count_rows 9:before_of_rows 10:step_before 11:product_before 12:check_text 13:check_window_size 14:stands_in 15:coat_of_entries 16:sign_coat 17:closed_kinds 18:parts_of 19:check_inside 20:breaker 21:keeps_window 22:decide 23:is_rising 24:law_begin 25:law_draw 26:law_stands 27:law_words 28:law_counts 29:law_shows 30:law_colours 31:law_coat_text 32:law_page_coat 33:law_coat_product 34:law_closure 35:law_tree 36:law_says 37:law_saying 38:law_closed 39:law_drawn_page 40:law_drawn_list 41:law_refused 42:law_refusals 43:law_page_judged 44:law_list_judged 45:law_either_or 46:law 47:Coat_init 48:Coat_plain 49:Coat_entry 50:Coat_text 51:Coat_places 52:Coat_count 53:Coat_mul 54:Coat_eq 55:Kinds_init 56:Kinds_page_of 57:Kinds_len 58:Kinds_iter 59:Saying_init 60:Saying_least 61:Saying_stretches 62:Saying_moved 63:Saying_call 64:Saying_and 65:Saying_or 66:Saying_invert 67:Certificate_claim 68:PageCertificate_init 69:PageCertificate_judged 70:ListCertificate_init 71:ListCertificate_judged 72:Calendar_init 73:Calendar_places 74:Calendar_signs 75:Calendar_stands 76:Calendar_len 77:BadStretch_init 78:TooLong_init 79:OutOfWindow_init 80:BadSigns_init -/
def looseN : List PySem.Str := (["_wall", "RollError", "BadSize", "BadStretch", "TooLong", "OutOfWindow", "BadStands", "BadNumber", "Unlike", "NoRoom", "BadText", "BadCalendar", "NoSign", "BadSigns", "BadCoat", "NoKind", "BadSaying", "MOST_PLACES", "MOST_WINDOW", "check_stretch", "check_window", "check_stands", "check_signs", "check_like", "LETTERS_coatrules", "before_of_text", "text_of_before", "count_in", "count_rows", "before_of_rows"] : List PySem.Str) ++ (["step_before", "product_before", "mirrored_before", "surplus_before", "ahead_before", "behind_before", "MOST_TIMES", "check_text", "check_window_size", "check_within", "Coat", "stands_in", "coat_of_entries", "sign_coat", "closed_kinds", "Kinds", "MOST_DIGITS", "SIGNS", "parts_of", "index_behind", "number_from", "plain_from", "sign_from", "tree_of", "check_inside", "Saying", "breaker", "Certificate", "keeps_window", "PageCertificate"] : List PySem.Str) ++ (["ListCertificate", "decide", "LETTERS_calendars", "is_rising", "Calendar", "_law_begin", "_law_draw", "_law_stands", "_law_words", "_law_counts", "_law_shows", "_law_colours", "_law_coat_text", "_law_page_coat", "_law_coat_product", "_law_closure", "_law_tree", "_law_says", "_law_saying", "_law_closed", "_law_drawn_page", "_law_drawn_list", "_law_refused", "_law_refusals", "_law_page_judged", "_law_list_judged", "_law_either_or"] : List PySem.Str)
def gloN : List PySem.Str := (["check_stretch", "check_window", "check_stands", "check_signs", "check_like", "before_of_text", "text_of_before", "count_in", "count_rows", "before_of_rows", "step_before", "product_before", "check_text", "check_window_size", "stands_in", "coat_of_entries", "sign_coat", "closed_kinds", "parts_of", "check_inside", "breaker", "keeps_window", "decide", "is_rising", "_law_begin", "_law_draw", "_law_stands", "_law_words", "_law_counts", "_law_shows"] : List PySem.Str) ++ (["_law_colours", "_law_coat_text", "_law_page_coat", "_law_coat_product", "_law_closure", "_law_tree", "_law_says", "_law_saying", "_law_closed", "_law_drawn_page", "_law_drawn_list", "_law_refused", "_law_refusals", "_law_page_judged", "_law_list_judged", "_law_either_or", "law", "Coat", "Kinds", "Saying", "Certificate", "PageCertificate", "ListCertificate", "Calendar", "BadStretch", "TooLong", "OutOfWindow", "BadSigns", "RollError"] : List PySem.Str)
def freeN : List PySem.Str := ["len", "range", "enumerate", "zip", "list", "tuple", "any", "all", "int", "abs", "max", "isinstance", "set", "str", "bool", "super", "iter"]

/-! ### the part of the heap that is told -/
def vRef : Value → List Addr
  | .ref a => [a]
  | _ => []
def nsRefs (g : Addr → Option Obj) (a : Addr) : List Addr := match g a with
  | some ⟨_, _, .dict es _, _⟩ => es.toList.flatMap fun e => vRef e.val
  | _ => []
def parts (g : Addr → Option Obj) (a : Addr) : List Addr := match g a with
  | some ⟨_, _, .func fd, _⟩ => vRef fd.code ++ fd.closure.map (·.2)
  | some ⟨_, _, .cls cd, _⟩ => [cd.ns]
  | some ⟨_, _, .fields vs, _⟩ => vs.toList.flatMap vRef
  | _ => []
def codes (g : Addr → Option Obj) (a : Addr) : List Addr := match g a with
  | some ⟨_, _, .func fd, _⟩ => vRef fd.code ++ fd.closure.map (·.2)
  | _ => []
def asK (g : Addr → Option Obj) : List Addr :=
  let l1 := nsRefs g mainGlobals
  let l2 := l1.flatMap (parts g)
  let l3 := l2.flatMap (nsRefs g)
  let l4 := l3.flatMap (parts g)
  let l5 := l4.flatMap (codes g)
  mainGlobals :: cStatics :: (l1 ++ (l2 ++ (l3 ++ (l4 ++ l5))))
/-! ### what is told of it -/
abbrev FnV : Type := Option (Str × Str × Arguments × FuncBody × Scope × Addr × Value × Addr)
def fnV (K : Frag) (a : Addr) : FnV := match K.lookup a with
  | some ⟨_, _, .func fd, _⟩ => some (fd.name, fd.qualname, fd.params, fd.body, fd.scope, fd.globals, fd.defaults, fd.builtins)
  | _ => none
def DD.val (d : DD) : FnV := some (d.name, d.qual, defArgs d.st, .stmts (defBody d.st), defScope d.st, mainGlobals, .none, builtinsNs)
def DD.ok (K : Frag) (d : DD) : Bool := PySem.W.keepIn K (.ref (d.path K)) && (PySem.W.isFn K (.ref (d.path K)) && (match K.lookup (d.path K) with
  | some ⟨_, _, .func fd, _⟩ => PySem.W.codeIn K fd.code d.qual && fd.closure.isEmpty
  | _ => false))
/-- the two defs that say super() -/
def ddS : List DD := [⟨fun K => mA K "PageCertificate" "claim", "claim", "PageCertificate.claim", inClass (top 68) 1⟩, ⟨fun K => mA K "ListCertificate" "claim", "claim", "ListCertificate.claim", inClass (top 69) 1⟩]
def eqO (a b : Option (Option Value)) : Bool := decide (a = b)
def superB (c : Str) (K : Frag) : Bool := match K.lookup (mA K c "claim") with
  | some ⟨_, _, .func fd, _⟩ => PySem.W.keepIn K (.ref (mA K c "claim")) && (PySem.W.isFn K (.ref (mA K c "claim")) && (match fd.code, fd.closure with
    | .ref cda, [(x, cc)] => decide (x = "__class__") && ((match K.lookup cda with
      | some ⟨_, _, .fields vs, _⟩ => (match vs.toList with
        | _ :: .str n _ :: .str f _ :: _ => decide (n = c ++ ".claim") && decide (f = "/claim/cut.py")
        | _ => false)
      | _ => false) && (match K.lookup cc with
      | some ⟨_, _, .cell (some (.ref D)), _⟩ => decide (D = gA K c)
      | _ => false))
    | _, _ => false))
  | _ => false
def superC (c : Str) (K : Frag) : Bool := PySem.W.isClsIn K (gA K c) && (decide (PySem.W.mroIn K (gA K c) (.ref (gA K c)) = some true) && (eqO (PySem.W.nsIn K cStatics "thirdparty.any") (some none) &&
  eqO (PySem.W.ks_superIn K (gA K c) (gA K c) "claim") (some (some (.ref (mA K "Certificate" "claim"))))))
def noAtB (c : Str) (fs : List Str) (K : Frag) : Bool := fs.all fun f => eqO (PySem.W.findIn K (.ref (gA K c)) f) (some none)
def clsB (c : Str) (K : Frag) : Bool := (He.Fa.cls c).ok K
def mkrB (c : Str) (K : Frag) : Bool := (He.Fa.mkr c).ok K
def methB (c : Str) (ms : List Str) (K : Frag) : Bool := ms.all fun m => (He.Fa.meth c m).ok K
def propB (c m : Str) (K : Frag) : Bool := eqO (PySem.W.findIn K (.ref (gA K c)) m) (some (some (.ref (mA K c m)))) && (eqO (PySem.W.specialIn K (.ref (mA K c m)) "__get__") (some (some (.builtin "property.__get__"))) &&
  (decide (PySem.W.takesIn K (.ref (mA K c m)) = some true) && (match PySem.W.recIn K (mA K c m) "property" with
    | some (.ref g :: _) => decide (g = pA K c m)
    | _ => false)))
def readB (c : Str) (K : Frag) : Bool := PySem.W.readsIn K (gA K c) (.type "type") && eqO (PySem.W.specialIn K (.ref (gA K c)) "__getattribute__") (some (some (.builtin "type.__getattribute__")))
def isGet (K : Frag) (c m : Str) : Option PySem.W.CFound → Bool
  | some (.get (.builtin n) (.ref p) .none (.ref C)) => decide (n = "staticmethod.__get__") && (decide (p = mA K c m) && decide (C = gA K c))
  | _ => false
def statB (c m : Str) (K : Frag) : Bool := isGet K c m (PySem.W.findCls K (.ref (gA K c)) (.type "type") m) && (match PySem.W.recIn K (mA K c m) "staticmethod" with
    | some (.ref g :: _) => decide (g = sA K c m)
    | _ => false)
def constB (c m : Str) (i : Int) (K : Frag) : Bool := match PySem.W.findCls K (.ref (gA K c)) (.type "type") m with
  | some (.val (.int j _)) => decide (j = i)
  | _ => false
def isB (c d : Str) (b : Bool) (K : Frag) : Bool := decide (PySem.W.kitOne K (.ref (gA K c)) (.ref (gA K d)) = some b)
/-- what TyX asks of an own class -/
def tyB (c : Str) (K : Frag) : Bool := eqO (PySem.W.findIn K (.ref (gA K c)) "__class__") (some (some (.builtin "object.__class__"))) && decide (PySem.W.mroIn K (gA K c) (.type "object") = some true)
def tyG (K : Frag) : Bool := eqO (PySem.W.specialIn K (.builtin "object.__class__") "__get__") (some (some (.builtin "getset_descriptor.__get__"))) && decide (PySem.W.takesIn K (.builtin "object.__class__") = some true)
def excB (c : Str) (fs : List Str) (K : Frag) : Bool := (match K.lookup (gA K c) with
  | some ⟨.type "type", _, .cls cd, sl⟩ => cd.hasDict && !cd.hasDel && (match cd.mro, sl.toList with
    | .ref C' :: bm, [_, _, _, _, some (.builtin n), _] => decide (C' = gA K c) && (decide (n = "ValueError.__new__") && PySem.HandSPX.refsVE bm)
    | _, _ => false)
  | _ => false) && (eqO (PySem.W.findIn K (.ref (gA K c)) "__setattr__") (some (some (.builtin "object.__setattr__"))) && (decide (PySem.W.subIn K (.ref (gA K c)) (.type "BaseException") = some true) &&
  (decide (PySem.W.typeIn K (.ref (gA K c)) = some (.type "type")) && (PySem.W.keepIn K (.ref (gA K c)) && (eqO (PySem.W.findIn K (.ref (gA K c)) "__init__") (some (some (.ref (mA K c "__init__")))) &&
  (eqO (PySem.W.findIn K (.ref (gA K c)) "__getattribute__") (some (some (.builtin "BaseException.__getattribute__"))) && (eqO (PySem.W.findIn K (.ref (gA K c)) "__getattr__") (some none) &&
  (noAtB c fs K && decide (PySem.W.exmOne K (.ref (gA K c)) (.ref (gA K "RollError")) = some true)))))))))
def selfB (c : Str) (ms : List Str) (K : Frag) : Bool := PySem.W.selfFirst K (gA K c) && ms.all fun m => eqO (PySem.W.findIn K (.ref (gA K c)) m) (some none)
def gloB (x : Str) (K : Frag) : Bool := eqO (PySem.W.nsIn K mainGlobals x) (some (some (.ref (gA K x))))
def freeB (x : Str) (K : Frag) : Bool := eqO (PySem.W.nsIn K mainGlobals x) (some none)
def intB (x : Str) (i : Int) (K : Frag) : Bool := (He.Fa.int x i).ok K
def strB (x z : Str) (K : Frag) : Bool := (He.Fa.str x z).ok K
def facts : List (Frag → Bool) := [
  clsB "Coat", clsB "Kinds", clsB "Saying", clsB "PageCertificate", clsB "ListCertificate", clsB "Calendar",
  mkrB "Coat", mkrB "Kinds", mkrB "Saying", mkrB "PageCertificate", mkrB "ListCertificate", mkrB "Calendar",
  noAtB "Coat" ["_text", "_before"], noAtB "Kinds" ["_signs", "_sign_coats", "_coats", "_pages"], noAtB "Saying" ["_tree"],
  noAtB "PageCertificate" ["_calendar", "_signs", "_begin", "_end", "_saying", "_page"], noAtB "ListCertificate" ["_calendar", "_signs", "_begin", "_end", "_saying", "_coats"], noAtB "Calendar" ["_words"],
  methB "Coat" ["text", "count", "__mul__", "__eq__"], methB "Kinds" ["page_of", "__len__", "__iter__"], methB "Saying" ["stretches", "moved", "__call__", "__and__", "__or__", "__invert__"],
  methB "PageCertificate" ["judged", "claim"], methB "ListCertificate" ["judged", "claim"], methB "Calendar" ["stands", "__len__"],
  propB "Coat" "places", propB "Calendar" "places", propB "Calendar" "signs",
  readB "Coat", readB "Saying", statB "Coat" "plain", statB "Coat" "entry", statB "Saying" "least", constB "Coat" "MOST_PLACES" 5]
def facts2 : List (Frag → Bool) := [
  isB "PageCertificate" "Certificate" true, isB "ListCertificate" "Certificate" true, isB "PageCertificate" "PageCertificate" true, isB "PageCertificate" "ListCertificate" false,
  isB "ListCertificate" "PageCertificate" false, isB "ListCertificate" "ListCertificate" true, isB "Coat" "Coat" true,
  tyB "PageCertificate", tyB "ListCertificate", tyB "Coat", tyG,
  superB "PageCertificate", superB "ListCertificate", superC "PageCertificate", superC "ListCertificate",
  excB "BadStretch" ["begin", "end"], excB "TooLong" ["length"], excB "OutOfWindow" ["begin", "end"], excB "BadSigns" ["index"],
  isB "BadStretch" "OutOfWindow" false, isB "BadStretch" "BadSigns" false, isB "BadStretch" "TooLong" false, isB "BadStretch" "BadStretch" true,
  isB "TooLong" "OutOfWindow" false, isB "TooLong" "BadSigns" false, isB "TooLong" "TooLong" true, isB "OutOfWindow" "OutOfWindow" true,
  isB "BadSigns" "OutOfWindow" false, isB "BadSigns" "BadSigns" true,
  tyB "BadStretch", tyB "TooLong", tyB "OutOfWindow", tyB "BadSigns",
  selfB "Coat" ["__rmul__"], selfB "Saying" ["__rand__", "__ror__"],
  intB "MOST_PLACES" 6, intB "MOST_WINDOW" 5, strB "LETTERS_coatrules" "abcdef", strB "LETTERS_calendars" "abcdefghijklmnopqrstuvwxyz"]
abbrev Al : Type := Bool × List FnV
def obsW (K : Frag) : Al := ((gloN.all fun x => gloB x K) && ((freeN.all fun x => freeB x K) && ((dds.all fun d => d.ok K) && ((facts.all fun f => f K) && facts2.all fun f => f K))), dds.map (fun d => fnV K (d.path K)) ++ ddS.map fun d => fnV K (d.path K))
def valW : Al := (true, dds.map DD.val ++ ddS.map DD.val)
def hookW : PySem.W.Hook where
  α := Al
  obs := fun s => obsW (He.frG s.heap.get? (asK s.heap.get?))
  val := fun _ => valW
  says := fun _ h => ∃ K : Frag, K.In h ∧ obsW K = valW
  of := fun _ _ e => ⟨_, He.frG_in, e⟩
  keeps := fun _ _ _ ⟨K, hK, c⟩ k => ⟨K, PySem.W.Frag.In.keeps hK k, c⟩
def obT (s : PySem.W.SharedT) : Al := obsW (He.frG (HandSHeadRun.getT s) (asK (HandSHeadRun.getT s)))
theorem obT_eq (s : PySem.W.SharedT) : obT s = hookW.obs s.abs := by
  have e : HandSHeadRun.getT s = s.abs.heap.get? := funext fun a => HandSHeadRun.getT_eq s a
  show obsW (He.frG (HandSHeadRun.getT s) (asK (HandSHeadRun.getT s))) = obsW (He.frG s.abs.heap.get? (asK s.abs.heap.get?))
  rw [e]
/-! ### the world of the walk -/
structure Wd (K : Frag) (mg : Str → Option Value) : Prop where
  glo : ∀ (i : Nat) {x : Str}, gloN[i]? = some x → mg x = some (.ref (gA K x))
  free : ∀ (i : Nat) {x : Str}, freeN[i]? = some x → mg x = none
  fn : ∀ (i : Nat) {d : DD}, dds[i]? = some d → Fun K d.name d.qual d.st (d.path K) (fdOf K (d.path K))
  isf : ∀ (i : Nat) {d : DD}, dds[i]? = some d → PySem.W.isFn K (.ref (d.path K)) = true
  ok : ∀ (i : Nat) {f : Frag → Bool}, facts[i]? = some f → f K = true
  ok2 : ∀ (i : Nat) {f : Frag → Bool}, facts2[i]? = some f → f K = true
  sup : ∀ (i : Nat) {d : DD}, ddS[i]? = some d → fnV K (d.path K) = d.val
  num : ∀ {x : Str} {i : Int}, intB x i K = true → ∃ t, mg x = some (.int i t)
  txt : ∀ {x z : Str}, strB x z K = true → ∃ t, mg x = some (.str z t)
theorem fun_of {K : Frag} {d : DD} (e : fnV K (d.path K) = d.val) (c : d.ok K = true) : Fun K d.name d.qual d.st (d.path K) (fdOf K (d.path K)) := by
  obtain ⟨kp, c1⟩ := He.ba c
  obtain ⟨_, c2⟩ := He.ba c1
  unfold fnV at e
  cases q : K.lookup (d.path K) with
  | none =>
    rw [q] at c2
    cases c2
  | some o =>
    obtain ⟨oc, od, dt, osl⟩ := o
    rw [q] at c2 e
    cases dt with
    | func fd =>
      have ef : fdOf K (d.path K) = fd := by
        unfold fdOf
        rw [q]
      rw [ef]
      obtain ⟨n1, n2, n3, n4, n5, n6, n7, n8, n9, n10, n11, n12, n13, n14, n15⟩ := fd
      have e2 : (some (n1, n2, n3, n4, n5, n6, n8, n15) : FnV) = some (d.name, d.qual, defArgs d.st, .stmts (defBody d.st), defScope d.st, mainGlobals, .none, builtinsNs) := e
      simp only [Option.some.injEq, Prod.mk.injEq] at e2
      obtain ⟨h1, h2, h3, h4, h5, h6, h7, h8⟩ := e2
      have c3 : (PySem.W.codeIn K n13 d.qual && n7.isEmpty) = true := c2
      obtain ⟨k1, k2⟩ := He.ba c3
      have k3 : n7 = [] := List.isEmpty_iff.mp k2
      subst h1 h2 h3 h4 h5 h6 h7 h8 k3
      exact ⟨⟨oc, od, n9, n10, n11, n12, n13, n14, osl, rfl, q, k1⟩, kp⟩
    | _ => cases c2
theorem wd_of {K : Frag} {h : Heap} {mg : Str → Option Value} (X : K.In h) (G : h.Ns mainGlobals mg) (c : obsW K = valW) : Wd K mg := by
  have c1 := congrArg (fun z : Al => z.1) c
  have c2 : dds.map (fun d => fnV K (d.path K)) ++ ddS.map (fun d => fnV K (d.path K)) = dds.map DD.val ++ ddS.map DD.val := congrArg (fun z : Al => z.2) c
  obtain ⟨a1, c1⟩ := He.ba (show ((gloN.all fun x => gloB x K) && ((freeN.all fun x => freeB x K) && ((dds.all fun d => d.ok K) && ((facts.all fun f => f K) && facts2.all fun f => f K)))) = true from c1)
  obtain ⟨a2, c1⟩ := He.ba c1
  obtain ⟨a3, c1⟩ := He.ba c1
  obtain ⟨a4, a5⟩ := He.ba c1
  have hl : (dds.map fun d => fnV K (d.path K)).length = (dds.map DD.val).length := by rw [List.length_map, List.length_map]
  obtain ⟨e1, e2⟩ := List.append_inj c2 hl
  refine ⟨fun i x e => ?_, fun i x e => ?_, fun i d e => ?_, fun i d e => ?_, fun i f e => ?_, fun i f e => ?_, fun i d e => ?_, fun q => He.int_ok X G q, fun q => He.str_ok X G q⟩
  · exact PySem.W.mg_of X G (of_decide_eq_true (List.all_eq_true.mp a1 x (List.mem_of_getElem? e)))
  · exact PySem.W.mg_none_of X G (of_decide_eq_true (List.all_eq_true.mp a2 x (List.mem_of_getElem? e)))
  · refine fun_of ?_ (List.all_eq_true.mp a3 d (List.mem_of_getElem? e))
    have q : (dds.map fun d => fnV K (d.path K))[i]? = (dds.map DD.val)[i]? := by rw [e1]
    rw [List.getElem?_map, List.getElem?_map, e] at q
    exact Option.some.inj q
  · exact (He.ba (He.ba (List.all_eq_true.mp a3 d (List.mem_of_getElem? e))).2).1
  · exact List.all_eq_true.mp a4 f (List.mem_of_getElem? e)
  · exact List.all_eq_true.mp a5 f (List.mem_of_getElem? e)
  · have q : (ddS.map fun d => fnV K (d.path K))[i]? = (ddS.map DD.val)[i]? := by rw [e2]
    rw [List.getElem?_map, List.getElem?_map, e] at q
    exact Option.some.inj q
theorem Wd.g_check_stretch {K : Frag} {mg : Str → Option Value} (c : Wd K mg) : mg "check_stretch" = some (.ref (gA K "check_stretch")) := c.glo 0 rfl
theorem Wd.g_check_window {K : Frag} {mg : Str → Option Value} (c : Wd K mg) : mg "check_window" = some (.ref (gA K "check_window")) := c.glo 1 rfl
theorem Wd.g_check_stands {K : Frag} {mg : Str → Option Value} (c : Wd K mg) : mg "check_stands" = some (.ref (gA K "check_stands")) := c.glo 2 rfl
theorem Wd.g_check_signs {K : Frag} {mg : Str → Option Value} (c : Wd K mg) : mg "check_signs" = some (.ref (gA K "check_signs")) := c.glo 3 rfl
theorem Wd.g_check_like {K : Frag} {mg : Str → Option Value} (c : Wd K mg) : mg "check_like" = some (.ref (gA K "check_like")) := c.glo 4 rfl
theorem Wd.g_before_of_text {K : Frag} {mg : Str → Option Value} (c : Wd K mg) : mg "before_of_text" = some (.ref (gA K "before_of_text")) := c.glo 5 rfl
theorem Wd.g_text_of_before {K : Frag} {mg : Str → Option Value} (c : Wd K mg) : mg "text_of_before" = some (.ref (gA K "text_of_before")) := c.glo 6 rfl
theorem Wd.g_count_in {K : Frag} {mg : Str → Option Value} (c : Wd K mg) : mg "count_in" = some (.ref (gA K "count_in")) := c.glo 7 rfl
theorem Wd.g_count_rows {K : Frag} {mg : Str → Option Value} (c : Wd K mg) : mg "count_rows" = some (.ref (gA K "count_rows")) := c.glo 8 rfl
theorem Wd.g_before_of_rows {K : Frag} {mg : Str → Option Value} (c : Wd K mg) : mg "before_of_rows" = some (.ref (gA K "before_of_rows")) := c.glo 9 rfl
theorem Wd.g_step_before {K : Frag} {mg : Str → Option Value} (c : Wd K mg) : mg "step_before" = some (.ref (gA K "step_before")) := c.glo 10 rfl
theorem Wd.g_product_before {K : Frag} {mg : Str → Option Value} (c : Wd K mg) : mg "product_before" = some (.ref (gA K "product_before")) := c.glo 11 rfl
theorem Wd.g_check_text {K : Frag} {mg : Str → Option Value} (c : Wd K mg) : mg "check_text" = some (.ref (gA K "check_text")) := c.glo 12 rfl
theorem Wd.g_check_window_size {K : Frag} {mg : Str → Option Value} (c : Wd K mg) : mg "check_window_size" = some (.ref (gA K "check_window_size")) := c.glo 13 rfl
theorem Wd.g_stands_in {K : Frag} {mg : Str → Option Value} (c : Wd K mg) : mg "stands_in" = some (.ref (gA K "stands_in")) := c.glo 14 rfl
theorem Wd.g_coat_of_entries {K : Frag} {mg : Str → Option Value} (c : Wd K mg) : mg "coat_of_entries" = some (.ref (gA K "coat_of_entries")) := c.glo 15 rfl
theorem Wd.g_sign_coat {K : Frag} {mg : Str → Option Value} (c : Wd K mg) : mg "sign_coat" = some (.ref (gA K "sign_coat")) := c.glo 16 rfl
theorem Wd.g_closed_kinds {K : Frag} {mg : Str → Option Value} (c : Wd K mg) : mg "closed_kinds" = some (.ref (gA K "closed_kinds")) := c.glo 17 rfl
theorem Wd.g_parts_of {K : Frag} {mg : Str → Option Value} (c : Wd K mg) : mg "parts_of" = some (.ref (gA K "parts_of")) := c.glo 18 rfl
theorem Wd.g_check_inside {K : Frag} {mg : Str → Option Value} (c : Wd K mg) : mg "check_inside" = some (.ref (gA K "check_inside")) := c.glo 19 rfl
theorem Wd.g_breaker {K : Frag} {mg : Str → Option Value} (c : Wd K mg) : mg "breaker" = some (.ref (gA K "breaker")) := c.glo 20 rfl
theorem Wd.g_keeps_window {K : Frag} {mg : Str → Option Value} (c : Wd K mg) : mg "keeps_window" = some (.ref (gA K "keeps_window")) := c.glo 21 rfl
theorem Wd.g_decide {K : Frag} {mg : Str → Option Value} (c : Wd K mg) : mg "decide" = some (.ref (gA K "decide")) := c.glo 22 rfl
theorem Wd.g_is_rising {K : Frag} {mg : Str → Option Value} (c : Wd K mg) : mg "is_rising" = some (.ref (gA K "is_rising")) := c.glo 23 rfl
theorem Wd.g_law_begin {K : Frag} {mg : Str → Option Value} (c : Wd K mg) : mg "_law_begin" = some (.ref (gA K "_law_begin")) := c.glo 24 rfl
theorem Wd.g_law_draw {K : Frag} {mg : Str → Option Value} (c : Wd K mg) : mg "_law_draw" = some (.ref (gA K "_law_draw")) := c.glo 25 rfl
theorem Wd.g_law_stands {K : Frag} {mg : Str → Option Value} (c : Wd K mg) : mg "_law_stands" = some (.ref (gA K "_law_stands")) := c.glo 26 rfl
theorem Wd.g_law_words {K : Frag} {mg : Str → Option Value} (c : Wd K mg) : mg "_law_words" = some (.ref (gA K "_law_words")) := c.glo 27 rfl
theorem Wd.g_law_counts {K : Frag} {mg : Str → Option Value} (c : Wd K mg) : mg "_law_counts" = some (.ref (gA K "_law_counts")) := c.glo 28 rfl
theorem Wd.g_law_shows {K : Frag} {mg : Str → Option Value} (c : Wd K mg) : mg "_law_shows" = some (.ref (gA K "_law_shows")) := c.glo 29 rfl
theorem Wd.g_law_colours {K : Frag} {mg : Str → Option Value} (c : Wd K mg) : mg "_law_colours" = some (.ref (gA K "_law_colours")) := c.glo 30 rfl
theorem Wd.g_law_coat_text {K : Frag} {mg : Str → Option Value} (c : Wd K mg) : mg "_law_coat_text" = some (.ref (gA K "_law_coat_text")) := c.glo 31 rfl
theorem Wd.g_law_page_coat {K : Frag} {mg : Str → Option Value} (c : Wd K mg) : mg "_law_page_coat" = some (.ref (gA K "_law_page_coat")) := c.glo 32 rfl
theorem Wd.g_law_coat_product {K : Frag} {mg : Str → Option Value} (c : Wd K mg) : mg "_law_coat_product" = some (.ref (gA K "_law_coat_product")) := c.glo 33 rfl
theorem Wd.g_law_closure {K : Frag} {mg : Str → Option Value} (c : Wd K mg) : mg "_law_closure" = some (.ref (gA K "_law_closure")) := c.glo 34 rfl
theorem Wd.g_law_tree {K : Frag} {mg : Str → Option Value} (c : Wd K mg) : mg "_law_tree" = some (.ref (gA K "_law_tree")) := c.glo 35 rfl
theorem Wd.g_law_says {K : Frag} {mg : Str → Option Value} (c : Wd K mg) : mg "_law_says" = some (.ref (gA K "_law_says")) := c.glo 36 rfl
theorem Wd.g_law_saying {K : Frag} {mg : Str → Option Value} (c : Wd K mg) : mg "_law_saying" = some (.ref (gA K "_law_saying")) := c.glo 37 rfl
theorem Wd.g_law_closed {K : Frag} {mg : Str → Option Value} (c : Wd K mg) : mg "_law_closed" = some (.ref (gA K "_law_closed")) := c.glo 38 rfl
theorem Wd.g_law_drawn_page {K : Frag} {mg : Str → Option Value} (c : Wd K mg) : mg "_law_drawn_page" = some (.ref (gA K "_law_drawn_page")) := c.glo 39 rfl
theorem Wd.g_law_drawn_list {K : Frag} {mg : Str → Option Value} (c : Wd K mg) : mg "_law_drawn_list" = some (.ref (gA K "_law_drawn_list")) := c.glo 40 rfl
theorem Wd.g_law_refused {K : Frag} {mg : Str → Option Value} (c : Wd K mg) : mg "_law_refused" = some (.ref (gA K "_law_refused")) := c.glo 41 rfl
theorem Wd.g_law_refusals {K : Frag} {mg : Str → Option Value} (c : Wd K mg) : mg "_law_refusals" = some (.ref (gA K "_law_refusals")) := c.glo 42 rfl
theorem Wd.g_law_page_judged {K : Frag} {mg : Str → Option Value} (c : Wd K mg) : mg "_law_page_judged" = some (.ref (gA K "_law_page_judged")) := c.glo 43 rfl
theorem Wd.g_law_list_judged {K : Frag} {mg : Str → Option Value} (c : Wd K mg) : mg "_law_list_judged" = some (.ref (gA K "_law_list_judged")) := c.glo 44 rfl
theorem Wd.g_law_either_or {K : Frag} {mg : Str → Option Value} (c : Wd K mg) : mg "_law_either_or" = some (.ref (gA K "_law_either_or")) := c.glo 45 rfl
theorem Wd.g_law {K : Frag} {mg : Str → Option Value} (c : Wd K mg) : mg "law" = some (.ref (gA K "law")) := c.glo 46 rfl
theorem Wd.g_Coat {K : Frag} {mg : Str → Option Value} (c : Wd K mg) : mg "Coat" = some (.ref (gA K "Coat")) := c.glo 47 rfl
theorem Wd.g_Kinds {K : Frag} {mg : Str → Option Value} (c : Wd K mg) : mg "Kinds" = some (.ref (gA K "Kinds")) := c.glo 48 rfl
theorem Wd.g_Saying {K : Frag} {mg : Str → Option Value} (c : Wd K mg) : mg "Saying" = some (.ref (gA K "Saying")) := c.glo 49 rfl
theorem Wd.g_Certificate {K : Frag} {mg : Str → Option Value} (c : Wd K mg) : mg "Certificate" = some (.ref (gA K "Certificate")) := c.glo 50 rfl
theorem Wd.g_PageCertificate {K : Frag} {mg : Str → Option Value} (c : Wd K mg) : mg "PageCertificate" = some (.ref (gA K "PageCertificate")) := c.glo 51 rfl
theorem Wd.g_ListCertificate {K : Frag} {mg : Str → Option Value} (c : Wd K mg) : mg "ListCertificate" = some (.ref (gA K "ListCertificate")) := c.glo 52 rfl
theorem Wd.g_Calendar {K : Frag} {mg : Str → Option Value} (c : Wd K mg) : mg "Calendar" = some (.ref (gA K "Calendar")) := c.glo 53 rfl
theorem Wd.g_BadStretch {K : Frag} {mg : Str → Option Value} (c : Wd K mg) : mg "BadStretch" = some (.ref (gA K "BadStretch")) := c.glo 54 rfl
theorem Wd.g_TooLong {K : Frag} {mg : Str → Option Value} (c : Wd K mg) : mg "TooLong" = some (.ref (gA K "TooLong")) := c.glo 55 rfl
theorem Wd.g_OutOfWindow {K : Frag} {mg : Str → Option Value} (c : Wd K mg) : mg "OutOfWindow" = some (.ref (gA K "OutOfWindow")) := c.glo 56 rfl
theorem Wd.g_BadSigns {K : Frag} {mg : Str → Option Value} (c : Wd K mg) : mg "BadSigns" = some (.ref (gA K "BadSigns")) := c.glo 57 rfl
theorem Wd.g_RollError {K : Frag} {mg : Str → Option Value} (c : Wd K mg) : mg "RollError" = some (.ref (gA K "RollError")) := c.glo 58 rfl
theorem Wd.z_len {K : Frag} {mg : Str → Option Value} (c : Wd K mg) : mg "len" = none := c.free 0 rfl
theorem Wd.z_range {K : Frag} {mg : Str → Option Value} (c : Wd K mg) : mg "range" = none := c.free 1 rfl
theorem Wd.z_enumerate {K : Frag} {mg : Str → Option Value} (c : Wd K mg) : mg "enumerate" = none := c.free 2 rfl
theorem Wd.z_zip {K : Frag} {mg : Str → Option Value} (c : Wd K mg) : mg "zip" = none := c.free 3 rfl
theorem Wd.z_list {K : Frag} {mg : Str → Option Value} (c : Wd K mg) : mg "list" = none := c.free 4 rfl
theorem Wd.z_tuple {K : Frag} {mg : Str → Option Value} (c : Wd K mg) : mg "tuple" = none := c.free 5 rfl
theorem Wd.z_any {K : Frag} {mg : Str → Option Value} (c : Wd K mg) : mg "any" = none := c.free 6 rfl
theorem Wd.z_all {K : Frag} {mg : Str → Option Value} (c : Wd K mg) : mg "all" = none := c.free 7 rfl
theorem Wd.z_int {K : Frag} {mg : Str → Option Value} (c : Wd K mg) : mg "int" = none := c.free 8 rfl
theorem Wd.z_abs {K : Frag} {mg : Str → Option Value} (c : Wd K mg) : mg "abs" = none := c.free 9 rfl
theorem Wd.z_max {K : Frag} {mg : Str → Option Value} (c : Wd K mg) : mg "max" = none := c.free 10 rfl
theorem Wd.z_isinstance {K : Frag} {mg : Str → Option Value} (c : Wd K mg) : mg "isinstance" = none := c.free 11 rfl
theorem Wd.z_set {K : Frag} {mg : Str → Option Value} (c : Wd K mg) : mg "set" = none := c.free 12 rfl
theorem Wd.z_str {K : Frag} {mg : Str → Option Value} (c : Wd K mg) : mg "str" = none := c.free 13 rfl
theorem Wd.z_bool {K : Frag} {mg : Str → Option Value} (c : Wd K mg) : mg "bool" = none := c.free 14 rfl
theorem Wd.z_iter {K : Frag} {mg : Str → Option Value} (c : Wd K mg) : mg "iter" = none := c.free 16 rfl
theorem Wd.z_super {K : Frag} {mg : Str → Option Value} (c : Wd K mg) : mg "super" = none := c.free 15 rfl
theorem Wd.f_check_stretch {K : Frag} {mg : Str → Option Value} (c : Wd K mg) : Fun K "check_stretch" "check_stretch" s_check_stretch ((fun K => gA K "check_stretch") K) (fdOf K ((fun K => gA K "check_stretch") K)) := c.fn 0 rfl
theorem Wd.f_check_window {K : Frag} {mg : Str → Option Value} (c : Wd K mg) : Fun K "check_window" "check_window" s_check_window ((fun K => gA K "check_window") K) (fdOf K ((fun K => gA K "check_window") K)) := c.fn 1 rfl
theorem Wd.f_check_stands {K : Frag} {mg : Str → Option Value} (c : Wd K mg) : Fun K "check_stands" "check_stands" s_check_stands ((fun K => gA K "check_stands") K) (fdOf K ((fun K => gA K "check_stands") K)) := c.fn 2 rfl
theorem Wd.f_check_signs {K : Frag} {mg : Str → Option Value} (c : Wd K mg) : Fun K "check_signs" "check_signs" s_check_signs ((fun K => gA K "check_signs") K) (fdOf K ((fun K => gA K "check_signs") K)) := c.fn 3 rfl
theorem Wd.f_check_like {K : Frag} {mg : Str → Option Value} (c : Wd K mg) : Fun K "check_like" "check_like" s_check_like ((fun K => gA K "check_like") K) (fdOf K ((fun K => gA K "check_like") K)) := c.fn 4 rfl
theorem Wd.f_before_of_text {K : Frag} {mg : Str → Option Value} (c : Wd K mg) : Fun K "before_of_text" "before_of_text" s_before_of_text ((fun K => gA K "before_of_text") K) (fdOf K ((fun K => gA K "before_of_text") K)) := c.fn 5 rfl
theorem Wd.f_text_of_before {K : Frag} {mg : Str → Option Value} (c : Wd K mg) : Fun K "text_of_before" "text_of_before" s_text_of_before ((fun K => gA K "text_of_before") K) (fdOf K ((fun K => gA K "text_of_before") K)) := c.fn 6 rfl
theorem Wd.f_count_in {K : Frag} {mg : Str → Option Value} (c : Wd K mg) : Fun K "count_in" "count_in" s_count_in ((fun K => gA K "count_in") K) (fdOf K ((fun K => gA K "count_in") K)) := c.fn 7 rfl
theorem Wd.f_count_rows {K : Frag} {mg : Str → Option Value} (c : Wd K mg) : Fun K "count_rows" "count_rows" s_count_rows ((fun K => gA K "count_rows") K) (fdOf K ((fun K => gA K "count_rows") K)) := c.fn 8 rfl
theorem Wd.f_before_of_rows {K : Frag} {mg : Str → Option Value} (c : Wd K mg) : Fun K "before_of_rows" "before_of_rows" s_before_of_rows ((fun K => gA K "before_of_rows") K) (fdOf K ((fun K => gA K "before_of_rows") K)) := c.fn 9 rfl
theorem Wd.f_step_before {K : Frag} {mg : Str → Option Value} (c : Wd K mg) : Fun K "step_before" "step_before" s_step_before ((fun K => gA K "step_before") K) (fdOf K ((fun K => gA K "step_before") K)) := c.fn 10 rfl
theorem Wd.f_product_before {K : Frag} {mg : Str → Option Value} (c : Wd K mg) : Fun K "product_before" "product_before" s_product_before ((fun K => gA K "product_before") K) (fdOf K ((fun K => gA K "product_before") K)) := c.fn 11 rfl
theorem Wd.f_check_text {K : Frag} {mg : Str → Option Value} (c : Wd K mg) : Fun K "check_text" "check_text" s_check_text ((fun K => gA K "check_text") K) (fdOf K ((fun K => gA K "check_text") K)) := c.fn 12 rfl
theorem Wd.f_check_window_size {K : Frag} {mg : Str → Option Value} (c : Wd K mg) : Fun K "check_window_size" "check_window_size" s_check_window_size ((fun K => gA K "check_window_size") K) (fdOf K ((fun K => gA K "check_window_size") K)) := c.fn 13 rfl
theorem Wd.f_stands_in {K : Frag} {mg : Str → Option Value} (c : Wd K mg) : Fun K "stands_in" "stands_in" s_stands_in ((fun K => gA K "stands_in") K) (fdOf K ((fun K => gA K "stands_in") K)) := c.fn 14 rfl
theorem Wd.f_coat_of_entries {K : Frag} {mg : Str → Option Value} (c : Wd K mg) : Fun K "coat_of_entries" "coat_of_entries" s_coat_of_entries ((fun K => gA K "coat_of_entries") K) (fdOf K ((fun K => gA K "coat_of_entries") K)) := c.fn 15 rfl
theorem Wd.f_sign_coat {K : Frag} {mg : Str → Option Value} (c : Wd K mg) : Fun K "sign_coat" "sign_coat" s_sign_coat ((fun K => gA K "sign_coat") K) (fdOf K ((fun K => gA K "sign_coat") K)) := c.fn 16 rfl
theorem Wd.f_closed_kinds {K : Frag} {mg : Str → Option Value} (c : Wd K mg) : Fun K "closed_kinds" "closed_kinds" s_closed_kinds ((fun K => gA K "closed_kinds") K) (fdOf K ((fun K => gA K "closed_kinds") K)) := c.fn 17 rfl
theorem Wd.f_parts_of {K : Frag} {mg : Str → Option Value} (c : Wd K mg) : Fun K "parts_of" "parts_of" s_parts_of ((fun K => gA K "parts_of") K) (fdOf K ((fun K => gA K "parts_of") K)) := c.fn 18 rfl
theorem Wd.f_check_inside {K : Frag} {mg : Str → Option Value} (c : Wd K mg) : Fun K "check_inside" "check_inside" s_check_inside ((fun K => gA K "check_inside") K) (fdOf K ((fun K => gA K "check_inside") K)) := c.fn 19 rfl
theorem Wd.f_breaker {K : Frag} {mg : Str → Option Value} (c : Wd K mg) : Fun K "breaker" "breaker" s_breaker ((fun K => gA K "breaker") K) (fdOf K ((fun K => gA K "breaker") K)) := c.fn 20 rfl
theorem Wd.f_keeps_window {K : Frag} {mg : Str → Option Value} (c : Wd K mg) : Fun K "keeps_window" "keeps_window" s_keeps_window ((fun K => gA K "keeps_window") K) (fdOf K ((fun K => gA K "keeps_window") K)) := c.fn 21 rfl
theorem Wd.f_decide {K : Frag} {mg : Str → Option Value} (c : Wd K mg) : Fun K "decide" "decide" s_decide ((fun K => gA K "decide") K) (fdOf K ((fun K => gA K "decide") K)) := c.fn 22 rfl
theorem Wd.f_is_rising {K : Frag} {mg : Str → Option Value} (c : Wd K mg) : Fun K "is_rising" "is_rising" s_is_rising ((fun K => gA K "is_rising") K) (fdOf K ((fun K => gA K "is_rising") K)) := c.fn 23 rfl
theorem Wd.f_law_begin {K : Frag} {mg : Str → Option Value} (c : Wd K mg) : Fun K "_law_begin" "_law_begin" s_law_begin ((fun K => gA K "_law_begin") K) (fdOf K ((fun K => gA K "_law_begin") K)) := c.fn 24 rfl
theorem Wd.f_law_draw {K : Frag} {mg : Str → Option Value} (c : Wd K mg) : Fun K "_law_draw" "_law_draw" s_law_draw ((fun K => gA K "_law_draw") K) (fdOf K ((fun K => gA K "_law_draw") K)) := c.fn 25 rfl
theorem Wd.f_law_stands {K : Frag} {mg : Str → Option Value} (c : Wd K mg) : Fun K "_law_stands" "_law_stands" s_law_stands ((fun K => gA K "_law_stands") K) (fdOf K ((fun K => gA K "_law_stands") K)) := c.fn 26 rfl
theorem Wd.f_law_words {K : Frag} {mg : Str → Option Value} (c : Wd K mg) : Fun K "_law_words" "_law_words" s_law_words ((fun K => gA K "_law_words") K) (fdOf K ((fun K => gA K "_law_words") K)) := c.fn 27 rfl
theorem Wd.f_law_counts {K : Frag} {mg : Str → Option Value} (c : Wd K mg) : Fun K "_law_counts" "_law_counts" s_law_counts ((fun K => gA K "_law_counts") K) (fdOf K ((fun K => gA K "_law_counts") K)) := c.fn 28 rfl
theorem Wd.f_law_shows {K : Frag} {mg : Str → Option Value} (c : Wd K mg) : Fun K "_law_shows" "_law_shows" s_law_shows ((fun K => gA K "_law_shows") K) (fdOf K ((fun K => gA K "_law_shows") K)) := c.fn 29 rfl
theorem Wd.f_law_colours {K : Frag} {mg : Str → Option Value} (c : Wd K mg) : Fun K "_law_colours" "_law_colours" s_law_colours ((fun K => gA K "_law_colours") K) (fdOf K ((fun K => gA K "_law_colours") K)) := c.fn 30 rfl
theorem Wd.f_law_coat_text {K : Frag} {mg : Str → Option Value} (c : Wd K mg) : Fun K "_law_coat_text" "_law_coat_text" s_law_coat_text ((fun K => gA K "_law_coat_text") K) (fdOf K ((fun K => gA K "_law_coat_text") K)) := c.fn 31 rfl
theorem Wd.f_law_page_coat {K : Frag} {mg : Str → Option Value} (c : Wd K mg) : Fun K "_law_page_coat" "_law_page_coat" s_law_page_coat ((fun K => gA K "_law_page_coat") K) (fdOf K ((fun K => gA K "_law_page_coat") K)) := c.fn 32 rfl
theorem Wd.f_law_coat_product {K : Frag} {mg : Str → Option Value} (c : Wd K mg) : Fun K "_law_coat_product" "_law_coat_product" s_law_coat_product ((fun K => gA K "_law_coat_product") K) (fdOf K ((fun K => gA K "_law_coat_product") K)) := c.fn 33 rfl
theorem Wd.f_law_closure {K : Frag} {mg : Str → Option Value} (c : Wd K mg) : Fun K "_law_closure" "_law_closure" s_law_closure ((fun K => gA K "_law_closure") K) (fdOf K ((fun K => gA K "_law_closure") K)) := c.fn 34 rfl
theorem Wd.f_law_tree {K : Frag} {mg : Str → Option Value} (c : Wd K mg) : Fun K "_law_tree" "_law_tree" s_law_tree ((fun K => gA K "_law_tree") K) (fdOf K ((fun K => gA K "_law_tree") K)) := c.fn 35 rfl
theorem Wd.f_law_says {K : Frag} {mg : Str → Option Value} (c : Wd K mg) : Fun K "_law_says" "_law_says" s_law_says ((fun K => gA K "_law_says") K) (fdOf K ((fun K => gA K "_law_says") K)) := c.fn 36 rfl
theorem Wd.f_law_saying {K : Frag} {mg : Str → Option Value} (c : Wd K mg) : Fun K "_law_saying" "_law_saying" s_law_saying ((fun K => gA K "_law_saying") K) (fdOf K ((fun K => gA K "_law_saying") K)) := c.fn 37 rfl
theorem Wd.f_law_closed {K : Frag} {mg : Str → Option Value} (c : Wd K mg) : Fun K "_law_closed" "_law_closed" s_law_closed ((fun K => gA K "_law_closed") K) (fdOf K ((fun K => gA K "_law_closed") K)) := c.fn 38 rfl
theorem Wd.f_law_drawn_page {K : Frag} {mg : Str → Option Value} (c : Wd K mg) : Fun K "_law_drawn_page" "_law_drawn_page" s_law_drawn_page ((fun K => gA K "_law_drawn_page") K) (fdOf K ((fun K => gA K "_law_drawn_page") K)) := c.fn 39 rfl
theorem Wd.f_law_drawn_list {K : Frag} {mg : Str → Option Value} (c : Wd K mg) : Fun K "_law_drawn_list" "_law_drawn_list" s_law_drawn_list ((fun K => gA K "_law_drawn_list") K) (fdOf K ((fun K => gA K "_law_drawn_list") K)) := c.fn 40 rfl
theorem Wd.f_law_refused {K : Frag} {mg : Str → Option Value} (c : Wd K mg) : Fun K "_law_refused" "_law_refused" s_law_refused ((fun K => gA K "_law_refused") K) (fdOf K ((fun K => gA K "_law_refused") K)) := c.fn 41 rfl
theorem Wd.f_law_refusals {K : Frag} {mg : Str → Option Value} (c : Wd K mg) : Fun K "_law_refusals" "_law_refusals" s_law_refusals ((fun K => gA K "_law_refusals") K) (fdOf K ((fun K => gA K "_law_refusals") K)) := c.fn 42 rfl
theorem Wd.f_law_page_judged {K : Frag} {mg : Str → Option Value} (c : Wd K mg) : Fun K "_law_page_judged" "_law_page_judged" s_law_page_judged ((fun K => gA K "_law_page_judged") K) (fdOf K ((fun K => gA K "_law_page_judged") K)) := c.fn 43 rfl
theorem Wd.f_law_list_judged {K : Frag} {mg : Str → Option Value} (c : Wd K mg) : Fun K "_law_list_judged" "_law_list_judged" s_law_list_judged ((fun K => gA K "_law_list_judged") K) (fdOf K ((fun K => gA K "_law_list_judged") K)) := c.fn 44 rfl
theorem Wd.f_law_either_or {K : Frag} {mg : Str → Option Value} (c : Wd K mg) : Fun K "_law_either_or" "_law_either_or" s_law_either_or ((fun K => gA K "_law_either_or") K) (fdOf K ((fun K => gA K "_law_either_or") K)) := c.fn 45 rfl
theorem Wd.f_law {K : Frag} {mg : Str → Option Value} (c : Wd K mg) : Fun K "law" "law" s_law ((fun K => gA K "law") K) (fdOf K ((fun K => gA K "law") K)) := c.fn 46 rfl
theorem Wd.f_Coat_init {K : Frag} {mg : Str → Option Value} (c : Wd K mg) : Fun K "__init__" "Coat.__init__" s_Coat_init ((fun K => mA K "Coat" "__init__") K) (fdOf K ((fun K => mA K "Coat" "__init__") K)) := c.fn 47 rfl
theorem Wd.f_Coat_plain {K : Frag} {mg : Str → Option Value} (c : Wd K mg) : Fun K "plain" "Coat.plain" s_Coat_plain ((fun K => sA K "Coat" "plain") K) (fdOf K ((fun K => sA K "Coat" "plain") K)) := c.fn 48 rfl
theorem Wd.f_Coat_entry {K : Frag} {mg : Str → Option Value} (c : Wd K mg) : Fun K "entry" "Coat.entry" s_Coat_entry ((fun K => sA K "Coat" "entry") K) (fdOf K ((fun K => sA K "Coat" "entry") K)) := c.fn 49 rfl
theorem Wd.f_Coat_text {K : Frag} {mg : Str → Option Value} (c : Wd K mg) : Fun K "text" "Coat.text" s_Coat_text ((fun K => mA K "Coat" "text") K) (fdOf K ((fun K => mA K "Coat" "text") K)) := c.fn 50 rfl
theorem Wd.f_Coat_places {K : Frag} {mg : Str → Option Value} (c : Wd K mg) : Fun K "places" "Coat.places" s_Coat_places ((fun K => pA K "Coat" "places") K) (fdOf K ((fun K => pA K "Coat" "places") K)) := c.fn 51 rfl
theorem Wd.f_Coat_count {K : Frag} {mg : Str → Option Value} (c : Wd K mg) : Fun K "count" "Coat.count" s_Coat_count ((fun K => mA K "Coat" "count") K) (fdOf K ((fun K => mA K "Coat" "count") K)) := c.fn 52 rfl
theorem Wd.f_Coat_mul {K : Frag} {mg : Str → Option Value} (c : Wd K mg) : Fun K "__mul__" "Coat.__mul__" s_Coat_mul ((fun K => mA K "Coat" "__mul__") K) (fdOf K ((fun K => mA K "Coat" "__mul__") K)) := c.fn 53 rfl
theorem Wd.f_Coat_eq {K : Frag} {mg : Str → Option Value} (c : Wd K mg) : Fun K "__eq__" "Coat.__eq__" s_Coat_eq ((fun K => mA K "Coat" "__eq__") K) (fdOf K ((fun K => mA K "Coat" "__eq__") K)) := c.fn 54 rfl
theorem Wd.f_Kinds_init {K : Frag} {mg : Str → Option Value} (c : Wd K mg) : Fun K "__init__" "Kinds.__init__" s_Kinds_init ((fun K => mA K "Kinds" "__init__") K) (fdOf K ((fun K => mA K "Kinds" "__init__") K)) := c.fn 55 rfl
theorem Wd.f_Kinds_page_of {K : Frag} {mg : Str → Option Value} (c : Wd K mg) : Fun K "page_of" "Kinds.page_of" s_Kinds_page_of ((fun K => mA K "Kinds" "page_of") K) (fdOf K ((fun K => mA K "Kinds" "page_of") K)) := c.fn 56 rfl
theorem Wd.f_Kinds_len {K : Frag} {mg : Str → Option Value} (c : Wd K mg) : Fun K "__len__" "Kinds.__len__" s_Kinds_len ((fun K => mA K "Kinds" "__len__") K) (fdOf K ((fun K => mA K "Kinds" "__len__") K)) := c.fn 57 rfl
theorem Wd.f_Kinds_iter {K : Frag} {mg : Str → Option Value} (c : Wd K mg) : Fun K "__iter__" "Kinds.__iter__" s_Kinds_iter ((fun K => mA K "Kinds" "__iter__") K) (fdOf K ((fun K => mA K "Kinds" "__iter__") K)) := c.fn 58 rfl
theorem Wd.f_Saying_init {K : Frag} {mg : Str → Option Value} (c : Wd K mg) : Fun K "__init__" "Saying.__init__" s_Saying_init ((fun K => mA K "Saying" "__init__") K) (fdOf K ((fun K => mA K "Saying" "__init__") K)) := c.fn 59 rfl
theorem Wd.f_Saying_least {K : Frag} {mg : Str → Option Value} (c : Wd K mg) : Fun K "least" "Saying.least" s_Saying_least ((fun K => sA K "Saying" "least") K) (fdOf K ((fun K => sA K "Saying" "least") K)) := c.fn 60 rfl
theorem Wd.f_Saying_stretches {K : Frag} {mg : Str → Option Value} (c : Wd K mg) : Fun K "stretches" "Saying.stretches" s_Saying_stretches ((fun K => mA K "Saying" "stretches") K) (fdOf K ((fun K => mA K "Saying" "stretches") K)) := c.fn 61 rfl
theorem Wd.f_Saying_moved {K : Frag} {mg : Str → Option Value} (c : Wd K mg) : Fun K "moved" "Saying.moved" s_Saying_moved ((fun K => mA K "Saying" "moved") K) (fdOf K ((fun K => mA K "Saying" "moved") K)) := c.fn 62 rfl
theorem Wd.f_Saying_call {K : Frag} {mg : Str → Option Value} (c : Wd K mg) : Fun K "__call__" "Saying.__call__" s_Saying_call ((fun K => mA K "Saying" "__call__") K) (fdOf K ((fun K => mA K "Saying" "__call__") K)) := c.fn 63 rfl
theorem Wd.f_Saying_and {K : Frag} {mg : Str → Option Value} (c : Wd K mg) : Fun K "__and__" "Saying.__and__" s_Saying_and ((fun K => mA K "Saying" "__and__") K) (fdOf K ((fun K => mA K "Saying" "__and__") K)) := c.fn 64 rfl
theorem Wd.f_Saying_or {K : Frag} {mg : Str → Option Value} (c : Wd K mg) : Fun K "__or__" "Saying.__or__" s_Saying_or ((fun K => mA K "Saying" "__or__") K) (fdOf K ((fun K => mA K "Saying" "__or__") K)) := c.fn 65 rfl
theorem Wd.f_Saying_invert {K : Frag} {mg : Str → Option Value} (c : Wd K mg) : Fun K "__invert__" "Saying.__invert__" s_Saying_invert ((fun K => mA K "Saying" "__invert__") K) (fdOf K ((fun K => mA K "Saying" "__invert__") K)) := c.fn 66 rfl
theorem Wd.f_Certificate_claim {K : Frag} {mg : Str → Option Value} (c : Wd K mg) : Fun K "claim" "Certificate.claim" s_Certificate_claim ((fun K => mA K "Certificate" "claim") K) (fdOf K ((fun K => mA K "Certificate" "claim") K)) := c.fn 67 rfl
theorem Wd.f_PageCertificate_init {K : Frag} {mg : Str → Option Value} (c : Wd K mg) : Fun K "__init__" "PageCertificate.__init__" s_PageCertificate_init ((fun K => mA K "PageCertificate" "__init__") K) (fdOf K ((fun K => mA K "PageCertificate" "__init__") K)) := c.fn 68 rfl
theorem Wd.f_PageCertificate_judged {K : Frag} {mg : Str → Option Value} (c : Wd K mg) : Fun K "judged" "PageCertificate.judged" s_PageCertificate_judged ((fun K => mA K "PageCertificate" "judged") K) (fdOf K ((fun K => mA K "PageCertificate" "judged") K)) := c.fn 69 rfl
theorem Wd.f_ListCertificate_init {K : Frag} {mg : Str → Option Value} (c : Wd K mg) : Fun K "__init__" "ListCertificate.__init__" s_ListCertificate_init ((fun K => mA K "ListCertificate" "__init__") K) (fdOf K ((fun K => mA K "ListCertificate" "__init__") K)) := c.fn 70 rfl
theorem Wd.f_ListCertificate_judged {K : Frag} {mg : Str → Option Value} (c : Wd K mg) : Fun K "judged" "ListCertificate.judged" s_ListCertificate_judged ((fun K => mA K "ListCertificate" "judged") K) (fdOf K ((fun K => mA K "ListCertificate" "judged") K)) := c.fn 71 rfl
theorem Wd.f_Calendar_init {K : Frag} {mg : Str → Option Value} (c : Wd K mg) : Fun K "__init__" "Calendar.__init__" s_Calendar_init ((fun K => mA K "Calendar" "__init__") K) (fdOf K ((fun K => mA K "Calendar" "__init__") K)) := c.fn 72 rfl
theorem Wd.f_Calendar_places {K : Frag} {mg : Str → Option Value} (c : Wd K mg) : Fun K "places" "Calendar.places" s_Calendar_places ((fun K => pA K "Calendar" "places") K) (fdOf K ((fun K => pA K "Calendar" "places") K)) := c.fn 73 rfl
theorem Wd.f_Calendar_signs {K : Frag} {mg : Str → Option Value} (c : Wd K mg) : Fun K "signs" "Calendar.signs" s_Calendar_signs ((fun K => pA K "Calendar" "signs") K) (fdOf K ((fun K => pA K "Calendar" "signs") K)) := c.fn 74 rfl
theorem Wd.f_Calendar_stands {K : Frag} {mg : Str → Option Value} (c : Wd K mg) : Fun K "stands" "Calendar.stands" s_Calendar_stands ((fun K => mA K "Calendar" "stands") K) (fdOf K ((fun K => mA K "Calendar" "stands") K)) := c.fn 75 rfl
theorem Wd.f_Calendar_len {K : Frag} {mg : Str → Option Value} (c : Wd K mg) : Fun K "__len__" "Calendar.__len__" s_Calendar_len ((fun K => mA K "Calendar" "__len__") K) (fdOf K ((fun K => mA K "Calendar" "__len__") K)) := c.fn 76 rfl
theorem Wd.f_BadStretch_init {K : Frag} {mg : Str → Option Value} (c : Wd K mg) : Fun K "__init__" "BadStretch.__init__" s_BadStretch_init ((fun K => mA K "BadStretch" "__init__") K) (fdOf K ((fun K => mA K "BadStretch" "__init__") K)) := c.fn 77 rfl
theorem Wd.f_TooLong_init {K : Frag} {mg : Str → Option Value} (c : Wd K mg) : Fun K "__init__" "TooLong.__init__" s_TooLong_init ((fun K => mA K "TooLong" "__init__") K) (fdOf K ((fun K => mA K "TooLong" "__init__") K)) := c.fn 78 rfl
theorem Wd.f_OutOfWindow_init {K : Frag} {mg : Str → Option Value} (c : Wd K mg) : Fun K "__init__" "OutOfWindow.__init__" s_OutOfWindow_init ((fun K => mA K "OutOfWindow" "__init__") K) (fdOf K ((fun K => mA K "OutOfWindow" "__init__") K)) := c.fn 79 rfl
theorem Wd.f_BadSigns_init {K : Frag} {mg : Str → Option Value} (c : Wd K mg) : Fun K "__init__" "BadSigns.__init__" s_BadSigns_init ((fun K => mA K "BadSigns" "__init__") K) (fdOf K ((fun K => mA K "BadSigns" "__init__") K)) := c.fn 80 rfl
end DR

set_option Elab.async false
set_option linter.all false
set_option maxRecDepth 100000
set_option maxHeartbeats 0
namespace DR
open PySem PySem.Spec PyProof.Rows L2
open PySem.W PySem.Calls HandSHeadRun
abbrev R : OpenRow := OpenLaw.row PySem.Challenge.rw_datelessrolls_k91_whole_either_or
abbrev vw : Program := view R.prog [98]
def wF (w : World) (b : Bool) : World := World.withFollow w "special-get-raises" b
noncomputable def runEnd (w : World) (os : OsState) : Option SharedT := endF (stepQ (denQ tabQ) R.prog w) 10400 R.prog w os
noncomputable def looks1 (w : World) (s : SharedT) := (looksF R.prog (boot_heap w.params) s.abs, seenQ vw looseN (importedModules R.prog.main.body) (fun s => xlAt vw [] s && recOk R.toRowW.records s) s.abs)
theorem run_f1 (w : World) (os : OsState) : (runEnd (World.withFollow w "special-get-raises" false) os).map (looks1 (World.withFollow w "special-get-raises" false)) = some (true, openGood vw looseN) := by kernel_rfl
theorem run_f2 (w : World) (os : OsState) : (runEnd (World.withFollow w "special-get-raises" false) os).map obT = some valW := by kernel_rfl
theorem run_t1 (w : World) (os : OsState) : (runEnd (World.withFollow w "special-get-raises" true) os).map (looks1 (World.withFollow w "special-get-raises" true)) = some (true, openGood vw looseN) := by kernel_rfl
theorem run_t2 (w : World) (os : OsState) : (runEnd (World.withFollow w "special-get-raises" true) os).map obT = some valW := by kernel_rfl
theorem run_of {w : World} (h1 : ∀ os, (runEnd w os).map (looks1 w) = some (true, openGood vw looseN)) (h2 : ∀ os, (runEnd w os).map obT = some valW) : RunEq R vw hookW obT 10400 looseN w := fun os => by
  obtain ⟨s, e, q1⟩ := Option.map_eq_some_iff.mp (h1 os)
  obtain ⟨s2, e2, q2⟩ := Option.map_eq_some_iff.mp (h2 os)
  rw [e] at e2
  cases e2
  have q3 : (looksF R.prog (boot_heap w.params) s.abs, seenQ vw looseN (importedModules R.prog.main.body) (fun s => xlAt vw [] s && recOk R.toRowW.records s) s.abs) = (true, openGood vw looseN) := q1
  obtain ⟨q4, q5⟩ := Prod.mk.inj q3
  show (runEnd w os).map _ = _
  rw [e]
  show some (looksF R.prog (boot_heap w.params) s.abs, seenQ vw looseN (importedModules R.prog.main.body) (fun s => xlAt vw [] s && recOk R.toRowW.records s) s.abs, obT s) = some (true, openGood vw looseN, hookW.val w)
  rw [q4, q5, q2] <;> rfl
theorem run (w : World) : RunEq R vw hookW obT 10400 looseN w :=
  byRow2 "special-get-raises" (P := fun w => RunEq R vw hookW obT 10400 looseN w) (fun w => run_of (run_f1 w) (run_f2 w)) (fun w => run_of (run_t1 w) (run_t2 w)) w
end DR

set_option Elab.async false
set_option linter.all false
set_option maxRecDepth 100000
set_option maxHeartbeats 4000000
/-! rules of the hand layer that the modules lack -/
namespace DR
open PySem PySem.Spec PyProof.Rows L2
open PySem.W (Frag)
/-! ### a call below the running body -/
section
variable {X : Cx} {CX : CXT} {k : Nat} {f C : Addr} {fd : FuncData} {ps : List Str} {sp : Sp} {E : XK}
/-- the callee runs, one of the machine's own calls between -/
theorem run_fnA {A : Around} {pins : List (Addr × Obj)} {σ : L2.St} {H : Hp} {s : Shared} {Q : VK} {us : List Value} {vs : List V} (F : FnOk X.prog X.w X.K X.mg X.base CX k f fd ps sp) (hr : Room k A) (hA : A.frames = X.A.frames) (hb : Binds X.K fd ps []) (hx : Passes CX X E)
    (I : Inv X pins σ H s) (r : Vals vs us) (h : sp vs H Q E) : wpAny (model X.prog X.w) A (call (.ref f) us) (EP X pins σ Q) X.xe s := by
  have hl : (us ++ []).length = ps.length := by rw [List.append_nil, ← r.length]; exact F.len _ _ _ _ h
  have e0 : Env0 X.prog X.w X.K X.mg X.base A X.stack s H := by
    have e := I.env0
    exact ⟨by rw [hA]; exact e.frames, e.mod, e.bs, e.bsz, e.funs, e.frf, e.hok, e.bare⟩
  have hb' := hb s us I.kIn hl
  rw [List.append_nil] at hb'
  refine wpAny_call (codeAny_mono (F.run A X.stack s H ⟨us, []⟩ us vs Q E hr e0 hb' r h) fun r s' hq => ?_)
  cases r with
  | error e => exact hx pins σ H s e s' I hq
  | ok fl =>
    cases fl with
    | ret u => exact I.after hq
    | next => exact False.elim hq
    | brk => exact False.elim hq
    | cont => exact False.elim hq
theorem cmpBack_of {z : V} {v : Value} {Q : Value → Shared → Prop} {s : Shared} (r : RelV z v) (q : Q v s) : PySem.W.CmpBack Q v s := by
  cases z with
  | non => cases (show v = Value.none from r); exact q
  | bl b => cases (show v = Value.bool b from r); exact q
  | int i => obtain ⟨t, rfl⟩ := (show ∃ t, v = Value.int i t from r); exact q
  | str x => obtain ⟨t, rfl⟩ := (show ∃ t, v = Value.str x t from r); exact q
  | byt x => obtain ⟨t, rfl⟩ := (show ∃ t, v = Value.bytes x t from r); exact q
  | flt x => obtain ⟨t, rfl⟩ := (show ∃ t, v = Value.float x t from r); exact q
  | ref a => cases (show v = Value.ref a from r); exact q
  | ty n => cases (show v = Value.type n from r); exact q
/-- two instances of one class, its own operator -/
def rOwn2 (C : Addr) (sp : Sp) (E : XK) : R2 := fun x y H Q => ∃ a b dx dy fs gs, x = .ref a ∧ y = .ref b ∧ H a = some (.ins C dx fs) ∧ H b = some (.ins C dy gs) ∧ sp [.ref a, .ref b] H Q E
def rOwn1 (C : Addr) (sp : Sp) (E : XK) : V → Hp → VK → Prop := fun x H Q => ∃ a dx fs, x = .ref a ∧ H a = some (.ins C dx fs) ∧ sp [.ref a] H Q E
theorem op_own2 {op : Operator} (F : FnOk X.prog X.w X.K X.mg X.base CX k f fd ps sp) (hr : Room k X.A) (hb : Binds X.K fd ps []) (hx : Passes CX X E) (hc : PySem.W.selfFirst X.K C = true) (hs : PySem.W.findIn X.K (.ref C) (PySem.dunder op.info.2) = some (some (.ref f)))
    (hf : PySem.W.isFn X.K (.ref f) = true) : OpR X (binaryOp op) (rOwn2 C sp E) := by
  intro pins s σ H x y v u Q I rx ry hq
  obtain ⟨a, b, dx, dy, fs, gs, rfl, rfl, ha, hb', hsp⟩ := hq
  cases rx
  cases ry
  obtain ⟨mA, J, _⟩ := ins_get I.hok ha
  obtain ⟨mB, J', _⟩ := ins_get I.hok hb'
  obtain ⟨od, J, _⟩ := J.look
  obtain ⟨od', J', _⟩ := J'.look
  obtain ⟨m, hF⟩ := I.fr
  refine PySem.W.binop_K hF I.ok.mod.kin J J'.type hc hs hf ?_
  exact thn (run_fnA (vs := [.ref a, .ref b]) F hr rfl hb hx I (.cons rfl (.cons rfl .nil)) hsp) fun w s' hw => cmpBack_of hw.choose_spec.choose_spec.2.1 hw
theorem op_ownEq (F : FnOk X.prog X.w X.K X.mg X.base CX k f fd ps sp) (hr : Room k X.A) (hb : Binds X.K fd ps []) (hx : Passes CX X E) (hs : PySem.W.findIn X.K (.ref C) "__eq__" = some (some (.ref f)))
    (hf : PySem.W.isFn X.K (.ref f) = true) : OpR X (compareOp .Eq) (rOwn2 C sp E) := by
  intro pins s σ H x y v u Q I rx ry hq
  obtain ⟨a, b, dx, dy, fs, gs, rfl, rfl, ha, hb', hsp⟩ := hq
  cases rx
  cases ry
  obtain ⟨mA, J, _⟩ := ins_get I.hok ha
  obtain ⟨mB, J', _⟩ := ins_get I.hok hb'
  obtain ⟨od, J, _⟩ := J.look
  obtain ⟨od', J', _⟩ := J'.look
  obtain ⟨m, hF⟩ := I.fr
  show wpAny (model X.prog X.w) X.A (richCompare .Eq (.ref a) (.ref b)) (EP X pins σ Q) X.xe s
  refine PySem.W.cmp_K (op := .Eq) (tb := .ref C) hr.units0 hF I.ok.mod.kin J J'.type (by simp [PySem.W.notFirst]) hs hf ?_
  exact thn (run_fnA (vs := [.ref a, .ref b]) F hr rfl hb hx I (.cons rfl (.cons rfl .nil)) hsp) fun w s' hw => cmpBack_of hw.choose_spec.choose_spec.2.1 hw
theorem un_ownInv (F : FnOk X.prog X.w X.K X.mg X.base CX k f fd ps sp) (hr : Room k X.A) (hb : Binds X.K fd ps []) (hx : Passes CX X E) (hs : PySem.W.findIn X.K (.ref C) "__invert__" = some (some (.ref f))) (hf : PySem.W.isFn X.K (.ref f) = true) :
    UnR X (unaryOp .Invert) (rOwn1 C sp E) := by
  intro pins s σ H x v Q I rx hq
  obtain ⟨a, dx, fs, rfl, ha, hsp⟩ := hq
  cases rx
  obtain ⟨mA, J, _⟩ := ins_get I.hok ha
  obtain ⟨od, J, _⟩ := J.look
  obtain ⟨m, hF⟩ := I.fr
  refine PySem.W.ksp_inv hF I.ok.mod.kin J hs hf ?_
  exact run_fnA (vs := [.ref a]) F hr rfl hb hx I (.cons rfl .nil) hsp
/-- len(o) by an own __len__ -/
def rLenOwn (C : Addr) (sp : Sp) (E : XK) : List V → Hp → VK → Prop := fun xs H Q => ∃ a dx fs, xs = [.ref a] ∧ H a = some (.ins C dx fs) ∧ sp [.ref a] H (fun v H' => ∃ n : Int, v = .int n ∧ 0 ≤ n ∧ n < 2 ^ 63 ∧ Q (.int n) H') E
theorem call_lenOwn (F : FnOk X.prog X.w X.K X.mg X.base CX k f fd ps sp) (hr : Room (k + 1) X.A) (hb : Binds X.K fd ps []) (hx : Passes CX X E) (hs : PySem.W.findIn X.K (.ref C) "__len__" = some (some (.ref f))) (hf : PySem.W.isFn X.K (.ref f) = true) :
    CallR X (.builtin "len") (rLenOwn C sp E) := by
  intro pins s σ H xs us Q I rv h
  obtain ⟨a, dx, fs, rfl, ha, hsp⟩ := h
  obtain ⟨u, rfl, ru⟩ := rv.one
  cases ru
  obtain ⟨mA, J, _⟩ := ins_get I.hok ha
  obtain ⟨od, J, _⟩ := J.look
  obtain ⟨m, hF⟩ := I.fr
  refine PySem.W.len_K hF I.ok.mod.kin J hs hf ?_
  refine thn (run_fnA (vs := [.ref a]) F hr.in1 rfl hb hx I (.cons rfl .nil) hsp) fun w s' hw => ?_
  obtain ⟨v, H', I', r, n, rfl, h0, h1, q⟩ := hw
  obtain ⟨t, rfl⟩ := (show ∃ t, w = Value.int n t from r)
  exact ⟨⟨h0, h1⟩, .int n, H', I'.tok _, ⟨_, rfl⟩, q⟩
end
/-! ### C.m(..), m a staticmethod -/
structure SMet (K : Frag) (C : Addr) (m : Str) (p g : Addr) : Prop where
  rd : PySem.W.readsIn K C (.type "type") = true
  ga : PySem.W.specialIn K (.ref C) "__getattribute__" = some (some (.builtin "type.__getattribute__"))
  at_ : PySem.W.findCls K (.ref C) (.type "type") m = some (.get (.builtin "staticmethod.__get__") (.ref p) .none (.ref C))
  rc : ∃ rest, PySem.W.recIn K p "staticmethod" = some (.ref g :: rest)
  kp : PySem.W.keepIn K (.ref g) = true
def tSMeth (C : Addr) (sp : Sp) (E : XK) (ta : TE) (t : TA) : TE := fun σ H Q => ta σ H fun x H1 => x = .ref C ∧ t σ H1 fun vs H2 => sp vs H2 Q E
section
variable {X : Cx} {CX : CXT} {k : Nat} {C p g : Addr} {fd : FuncData} {ps : List Str} {sp : Sp} {E : XK} {o e : Expr} {es : List Expr} {f m x : Str} {pos apos px : Pos} {ta : TE} {t : TA} {pl : Sem Bool}
theorem getmethsm_ok {pins : List (Addr × Obj)} {σ : L2.St} {H : Hp} {s : Shared} {E : Value → Shared → Prop} {Q : Value × List Value → Shared → Prop} (I : Inv X pins σ H s) (c : SMet X.K C m p g) (h : ∀ s', Inv X pins σ H s' → Q (.ref g, []) s') :
    wpAny (model X.prog X.w) X.A (getMethod (.ref C) m pl) Q E s := by
  obtain ⟨rest, hp⟩ := c.rc
  refine PySem.W.method_cls I.kIn c.ga ?_
  refine PySem.W.cls_bind I.kIn c.rd c.at_ ?_
  refine wpAny_call (PySem.W.sm_get (s := { s with toks := s.toks + 1 }) I.kIn hp (PySem.W.handed_on rfl ?_))
  exact h _ (I.tok _)
theorem pe_smeth (he : PE X o ta) (c : SMet X.K C m p g) (F : FnOk X.prog X.w X.K X.mg X.base CX k g fd ps sp) (hr : Room k X.A) (hb : Binds X.K fd ps []) (hx : Passes CX X E) (ha : PA X (e :: es) t)
    (hst : starEach (e :: es) X.env = (false, eval e X.env) :: starEach es X.env := by rfl) (hpl : (backTo pos (starEach es X.env)).any (·.1) = false := by rfl)
    (ht : eval (.Call (.Attribute o m apos) (e :: es) [] pos) X.env = (do
      let ov ← eval o X.env
      standAt apos.atName
      let (f, first) ← holding [ov] (getMethod ov m pl)
      callWith pos f first (backTo pos (starEach (e :: es) X.env)) (backToKw pos (keywordEach [] X.env))) := by rfl) :
    PE X (.Call (.Attribute o m apos) (e :: es) [] pos) (tSMeth C sp E ta t) := by
  refine ⟨fun pins s σ H Q I h => ?_⟩
  refine PySem.W.methodCall_KW (pl := pl) (thn (he.run pins s σ H _ I h) fun u s1 ⟨x, H1, I1, rx, ex, q⟩ => ?_) ht
  subst ex
  obtain rfl : u = Value.ref C := rx
  refine getmethsm_ok I1 c fun s2 I2 => ?_
  refine PySem.W.callWith_K (first := []) (h₀ := X.base) I.ok.mod.kin c.kp (thn (ha.run pos pins s2 σ H1 _ I2 q) fun us s3 ⟨vs, H2, I3, rv, q2⟩ => ⟨I3.kIn, ?_⟩) hst hpl
  exact run_fnA F hr rfl hb hx I3 rv q2
theorem callWith_inst {M : Model} {A : Around} {E : Value → Shared → Prop} {s : Shared} {a : Addr} {env : Env} {Q : Value → Shared → Prop}
    (h : wpAny M A (spliced (backTo pos (starEach (e :: es) env))) (fun vs s1 => (∃ ox, s1.heap.get? a = some ox ∧ ox.data = .plain) ∧ wpAny M A (call (.ref a) vs) Q E s1) E s)
    (he : starEach (e :: es) env = (false, eval e env) :: starEach es env) (hpl : (backTo pos (starEach es env)).any (·.1) = false) :
    wpAny M A (callWith pos (.ref a) [] (backTo pos (starEach (e :: es) env)) []) Q E s := by
  rw [he] at h ⊢
  have hp : (((false, eval e env) :: backTo pos (starEach es env)).any (·.1) || ([] : List (Option Str × Sem Value)).any (·.1.isNone)) = false := by
    show ((false || (backTo pos (starEach es env)).any (·.1)) || false) = false
    rw [hpl] <;> rfl
  have h2 := PySem.Calls.evalArgs_plain (f := .ref a) (Q := fun a' s1 => (∃ ox, s1.heap.get? a = some ox ∧ ox.data = .plain) ∧ wpAny M A (call (.ref a) a'.pos a'.kw) Q E s1) h
  unfold callWith
  refine wpAny_bind (wpAny_holding (wpAny_mono h2 (fun a' s1 h1 => wpAny_bind (wpAny_standAt ?_)) fun _ _ y => y))
  obtain ⟨⟨ox, hx, hd⟩, hc⟩ := h1
  have L : PySem.W.Looks M s1.heap (keeperOf (.ref a)) .caller := by
    refine (PySem.W.Looks.ld (part := none) hx).andThen ?_
    simp only [hd]
    exact .now
  simp only [hp]
  refine wpAny_bind (L.here ?_)
  have tail : ∀ {t : Sem Value}, wpAny M A t Q E s1 → wpAny M A (t >>= fun r => holding [r] point >>= fun _ => pure r) Q E s1 :=
    fun ht => wpAny_bind (wpAny_mono ht (fun r s2 hr => wpAny_bind (wpAny_holding (wpAny_point (wpAny_pure hr)))) fun _ _ y => y)
  exact tail (wpAny_operateT hc)
/-! ### f(..), f a local name that holds an instance with an own __call__ -/
def tCallO (C : Addr) (sp : Sp) (E : XK) (i : Nat) (t : TA) : TE := fun σ H Q => ∃ a dx fs, σ[i]? = some (some (.ref a)) ∧ H a = some (.ins C dx fs) ∧ t σ H fun vs H1 => (∃ dy gs, H1 a = some (.ins C dy gs)) ∧ sp (.ref a :: vs) H1 Q E
theorem pe_callO {i : Nat} (F : FnOk X.prog X.w X.K X.mg X.base CX k g fd ps sp) (hr : Room k X.A) (hb : Binds X.K fd ps []) (hx : Passes CX X E) (hs : PySem.W.findIn X.K (.ref C) "__call__" = some (some (.ref g))) (hf : PySem.W.isFn X.K (.ref g) = true) (hk : PySem.W.fnIn X.K g = true)
    (hN : X.N[i]? = some x) (hv : Vis X.env.scope x) (ha : PA X (e :: es) t) (hd : (x == ("__debug__" : Str)) = false := by decide) (hcd : (x == ("__classdict__" : Str)) = false := by decide)
    (he : starEach (e :: es) X.env = (false, eval e X.env) :: starEach es X.env := by rfl) (hpl : (backTo pos (starEach es X.env)).any (·.1) = false := by rfl) : PE X (.Call (.Name x px) (e :: es) [] pos) (tCallO C sp E i t) := by
  refine ⟨fun pins s σ H Q I h => ?_⟩
  obtain ⟨a, dx, fs, hσ, hH, h⟩ := h
  refine wpAny_Call_Name_kw (thn ((pe_var (pos := px) (i := i) hN hv hd hcd).run pins s σ H (fun v H1 => v = .ref a ∧ H1 = H) I ⟨.ref a, hσ, rfl, rfl⟩) fun u s1 ⟨v, H1, I1, r1, ev, eH⟩ => ?_)
  subst ev
  rw [eH] at I1
  cases r1
  refine callWith_inst (thn (ha.run pos pins s1 σ H _ I1 h) fun us s2 ⟨vs, H2, I2, rv, hi, q2⟩ => ?_) he hpl
  obtain ⟨dy, gs, hH2⟩ := hi
  obtain ⟨mA, J, _⟩ := ins_get I2.hok hH2
  obtain ⟨od, J, _⟩ := J.look
  refine ⟨⟨_, J.at_, rfl⟩, ?_⟩
  have hl : (Value.ref a :: us ++ []).length = ps.length := by
    have z := F.len _ _ _ _ q2
    rw [List.append_nil, ← z, List.length_cons, List.length_cons, rv.length]
  have hb' := hb s2 (.ref a :: us) I2.kIn hl
  rw [List.append_nil] at hb'
  refine wpAny_call (PySem.W.kco_code I2.kIn J rfl hs hf hk ?_)
  refine codeAny_mono (F.run X.A X.stack s2 H2 ⟨.ref a :: us, []⟩ (.ref a :: us) (.ref a :: vs) Q E hr I2.env0 hb' (.cons rfl rv) q2) fun r s' hq => ?_
  cases r with
  | error e => exact hx pins σ H2 s2 e s' I2 hq
  | ok fl =>
    cases fl with
    | ret u => exact I2.after hq
    | next => exact False.elim hq
    | brk => exact False.elim hq
    | cont => exact False.elim hq
end
end DR

set_option Elab.async false
set_option linter.all false
set_option maxRecDepth 100000
set_option maxHeartbeats 4000000
/-! accessors of the facts -/
namespace DR
open PySem PySem.Spec PyProof.Rows L2
open PySem.W (Frag)
theorem noat_of {K : Frag} {c f : Str} {fs : List Str} (h : noAtB c fs K = true) (m : f ∈ fs) : NoAttr K (gA K c) f := He.eqO_ok (List.all_eq_true.mp h f m)
theorem meth_of {K : Frag} {c m : Str} {ms : List Str} (h : methB c ms K = true) (q : m ∈ ms) : Meth K (gA K c) m (mA K c m) := He.meth_ok (List.all_eq_true.mp h m q)
theorem prop_of {K : Frag} {c m : Str} (h : propB c m K = true) : PropOf K (gA K c) m (mA K c m) (pA K c m) := by
  obtain ⟨h1, h⟩ := He.ba h
  obtain ⟨h2, h⟩ := He.ba h
  obtain ⟨h3, h⟩ := He.ba h
  refine ⟨of_decide_eq_true h1, of_decide_eq_true h2, of_decide_eq_true h3, ?_⟩
  cases q : PySem.W.recIn K (mA K c m) "property" with
  | none => rw [q] at h; cases h
  | some l =>
    rw [q] at h
    cases l with
    | nil => cases h
    | cons a r =>
      cases a with
      | ref g => exact ⟨r, by rw [← of_decide_eq_true h]⟩
      | _ => cases h
theorem smet_of {K : Frag} {c m : Str} (hr : readB c K = true) (h : statB c m K = true) (hk : PySem.W.keepIn K (.ref (sA K c m)) = true) : SMet K (gA K c) m (mA K c m) (sA K c m) := by
  obtain ⟨h1, h2⟩ := He.ba hr
  obtain ⟨h3, h4⟩ := He.ba h
  refine ⟨h1, of_decide_eq_true h2, ?_, ?_, hk⟩
  · cases q : PySem.W.findCls K (.ref (gA K c)) (.type "type") m with
    | none => rw [q] at h3; cases h3
    | some l =>
      rw [q] at h3
      cases l with
      | get a b d e =>
        cases a with
        | builtin n =>
          cases b with
          | ref p =>
            cases d with
            | none =>
              cases e with
              | ref C =>
                obtain ⟨e1, e23⟩ := He.ba (show (decide (n = "staticmethod.__get__") && (decide (p = mA K c m) && decide (C = gA K c))) = true from h3)
                obtain ⟨e2, e3⟩ := He.ba e23
                rw [of_decide_eq_true e1, of_decide_eq_true e2, of_decide_eq_true e3]
              | _ => cases h3
            | _ => cases h3
          | _ => cases h3
        | _ => cases h3
      | _ => cases h3
  · cases q : PySem.W.recIn K (mA K c m) "staticmethod" with
    | none => rw [q] at h4; cases h4
    | some l =>
      rw [q] at h4
      cases l with
      | nil => cases h4
      | cons a r =>
        cases a with
        | ref g => exact ⟨r, by rw [← of_decide_eq_true h4]⟩
        | _ => cases h4
theorem exc_of {K : Frag} {c : Str} {fs : List Str} (h : excB c fs K = true) : OexC K (gA K c) ∧ PySem.W.findIn K (.ref (gA K c)) "__init__" = some (some (.ref (mA K c "__init__"))) ∧ PySem.W.exmOne K (.ref (gA K c)) (.ref (gA K "RollError")) = some true ∧ XfC K (gA K c) ∧
    ∀ f, f ∈ fs → PySem.W.findIn K (.ref (gA K c)) f = some none := by
  obtain ⟨h1, h⟩ := He.ba h
  obtain ⟨h2, h⟩ := He.ba h
  obtain ⟨h3, h⟩ := He.ba h
  obtain ⟨h4, h⟩ := He.ba h
  obtain ⟨h5, h⟩ := He.ba h
  obtain ⟨h6, h⟩ := He.ba h
  obtain ⟨h7, h⟩ := He.ba h
  obtain ⟨h8, h⟩ := He.ba h
  obtain ⟨h9, h10⟩ := He.ba h
  have key : (∃ nm q N bs bm sn sub ab col dd k0 k1 k2 k3 k5, K.lookup (gA K c) = some (excClassObj nm q (gA K c) N bs bm true sn sub ab col dd k0 k1 k2 k3 k5 "ValueError.__new__") ∧ PySem.HandSPX.refsVE bm = true) ∧ PySem.W.hasDictIn K (gA K c) = true := by
    cases q : K.lookup (gA K c) with
    | none => rw [q] at h1; cases h1
    | some o =>
      rw [q] at h1
      obtain ⟨oc, od, dt, sl⟩ := o
      cases oc with
      | type T =>
        cases dt with
        | cls cd =>
          by_cases hT : T = "type"
          · subst hT
            obtain ⟨h11, h12⟩ := He.ba (show (cd.hasDict && !cd.hasDel && _) = true from h1)
            obtain ⟨h13, h14⟩ := He.ba h11
            obtain ⟨nm, bs, mro, ns, qn, hd, sn, sb, ab, col, del⟩ := cd
            have e1 : hd = true := h13
            have e2 : del = false := by simpa using h14
            subst e1 e2
            cases mro with
            | nil => cases h12
            | cons m0 bm =>
              cases m0 with
              | ref C' =>
                cases sl with
                | mk l =>
                  match l, q, h12 with
                  | [a0, a1, a2, a3, some (.builtin n), a5], q, h12 =>
                    obtain ⟨e3, h15⟩ := He.ba (show (decide (C' = gA K c) && (decide (n = "ValueError.__new__") && PySem.HandSPX.refsVE bm)) = true from h12)
                    obtain ⟨e4, e5⟩ := He.ba h15
                    have e3 := of_decide_eq_true e3
                    have e4 := of_decide_eq_true e4
                    subst e4
                    rw [e3] at q
                    refine ⟨⟨nm, qn, ns, bs, bm, sn, sb, ab, col, od, a0, a1, a2, a3, a5, by rw [e3], e5⟩, ?_⟩
                    unfold PySem.W.hasDictIn PySem.W.clsIn
                    rw [q] <;> rfl
              | _ => cases h12
          · exfalso
            revert h1
            simp [hT]
        | _ => simp at h1
      | _ => simp at h1
  exact ⟨⟨key.1, of_decide_eq_true h2, of_decide_eq_true h3, of_decide_eq_true h4, h5⟩, of_decide_eq_true h6, of_decide_eq_true h10, ⟨of_decide_eq_true h7, of_decide_eq_true h8, of_decide_eq_true h3, key.2⟩, fun f m => He.eqO_ok (List.all_eq_true.mp h9 f m)⟩
theorem Wd.c_Coat {K : Frag} {mg : Str → Option Value} (c : Wd K mg) : Cls K (gA K "Coat") := He.cls_ok (c.ok 0 rfl)
theorem Wd.c_Kinds {K : Frag} {mg : Str → Option Value} (c : Wd K mg) : Cls K (gA K "Kinds") := He.cls_ok (c.ok 1 rfl)
theorem Wd.c_Saying {K : Frag} {mg : Str → Option Value} (c : Wd K mg) : Cls K (gA K "Saying") := He.cls_ok (c.ok 2 rfl)
theorem Wd.c_PageCertificate {K : Frag} {mg : Str → Option Value} (c : Wd K mg) : Cls K (gA K "PageCertificate") := He.cls_ok (c.ok 3 rfl)
theorem Wd.c_ListCertificate {K : Frag} {mg : Str → Option Value} (c : Wd K mg) : Cls K (gA K "ListCertificate") := He.cls_ok (c.ok 4 rfl)
theorem Wd.c_Calendar {K : Frag} {mg : Str → Option Value} (c : Wd K mg) : Cls K (gA K "Calendar") := He.cls_ok (c.ok 5 rfl)
theorem Wd.mk_Coat {K : Frag} {mg : Str → Option Value} (c : Wd K mg) : Mk K (gA K "Coat") (mA K "Coat" "__init__") := He.mkr_ok (c.ok 6 rfl)
theorem Wd.mk_Kinds {K : Frag} {mg : Str → Option Value} (c : Wd K mg) : Mk K (gA K "Kinds") (mA K "Kinds" "__init__") := He.mkr_ok (c.ok 7 rfl)
theorem Wd.mk_Saying {K : Frag} {mg : Str → Option Value} (c : Wd K mg) : Mk K (gA K "Saying") (mA K "Saying" "__init__") := He.mkr_ok (c.ok 8 rfl)
theorem Wd.mk_PageCertificate {K : Frag} {mg : Str → Option Value} (c : Wd K mg) : Mk K (gA K "PageCertificate") (mA K "PageCertificate" "__init__") := He.mkr_ok (c.ok 9 rfl)
theorem Wd.mk_ListCertificate {K : Frag} {mg : Str → Option Value} (c : Wd K mg) : Mk K (gA K "ListCertificate") (mA K "ListCertificate" "__init__") := He.mkr_ok (c.ok 10 rfl)
theorem Wd.mk_Calendar {K : Frag} {mg : Str → Option Value} (c : Wd K mg) : Mk K (gA K "Calendar") (mA K "Calendar" "__init__") := He.mkr_ok (c.ok 11 rfl)
theorem Wd.a_Coat_text {K : Frag} {mg : Str → Option Value} (c : Wd K mg) : NoAttr K (gA K "Coat") "_text" := noat_of (c.ok 12 rfl) (by decide)
theorem Wd.a_Coat_before {K : Frag} {mg : Str → Option Value} (c : Wd K mg) : NoAttr K (gA K "Coat") "_before" := noat_of (c.ok 12 rfl) (by decide)
theorem Wd.a_Kinds_signs {K : Frag} {mg : Str → Option Value} (c : Wd K mg) : NoAttr K (gA K "Kinds") "_signs" := noat_of (c.ok 13 rfl) (by decide)
theorem Wd.a_Kinds_sign_coats {K : Frag} {mg : Str → Option Value} (c : Wd K mg) : NoAttr K (gA K "Kinds") "_sign_coats" := noat_of (c.ok 13 rfl) (by decide)
theorem Wd.a_Kinds_coats {K : Frag} {mg : Str → Option Value} (c : Wd K mg) : NoAttr K (gA K "Kinds") "_coats" := noat_of (c.ok 13 rfl) (by decide)
theorem Wd.a_Kinds_pages {K : Frag} {mg : Str → Option Value} (c : Wd K mg) : NoAttr K (gA K "Kinds") "_pages" := noat_of (c.ok 13 rfl) (by decide)
theorem Wd.a_Saying_tree {K : Frag} {mg : Str → Option Value} (c : Wd K mg) : NoAttr K (gA K "Saying") "_tree" := noat_of (c.ok 14 rfl) (by decide)
theorem Wd.a_PageCertificate_calendar {K : Frag} {mg : Str → Option Value} (c : Wd K mg) : NoAttr K (gA K "PageCertificate") "_calendar" := noat_of (c.ok 15 rfl) (by decide)
theorem Wd.a_PageCertificate_signs {K : Frag} {mg : Str → Option Value} (c : Wd K mg) : NoAttr K (gA K "PageCertificate") "_signs" := noat_of (c.ok 15 rfl) (by decide)
theorem Wd.a_PageCertificate_begin {K : Frag} {mg : Str → Option Value} (c : Wd K mg) : NoAttr K (gA K "PageCertificate") "_begin" := noat_of (c.ok 15 rfl) (by decide)
theorem Wd.a_PageCertificate_end {K : Frag} {mg : Str → Option Value} (c : Wd K mg) : NoAttr K (gA K "PageCertificate") "_end" := noat_of (c.ok 15 rfl) (by decide)
theorem Wd.a_PageCertificate_saying {K : Frag} {mg : Str → Option Value} (c : Wd K mg) : NoAttr K (gA K "PageCertificate") "_saying" := noat_of (c.ok 15 rfl) (by decide)
theorem Wd.a_PageCertificate_page {K : Frag} {mg : Str → Option Value} (c : Wd K mg) : NoAttr K (gA K "PageCertificate") "_page" := noat_of (c.ok 15 rfl) (by decide)
theorem Wd.a_ListCertificate_calendar {K : Frag} {mg : Str → Option Value} (c : Wd K mg) : NoAttr K (gA K "ListCertificate") "_calendar" := noat_of (c.ok 16 rfl) (by decide)
theorem Wd.a_ListCertificate_signs {K : Frag} {mg : Str → Option Value} (c : Wd K mg) : NoAttr K (gA K "ListCertificate") "_signs" := noat_of (c.ok 16 rfl) (by decide)
theorem Wd.a_ListCertificate_begin {K : Frag} {mg : Str → Option Value} (c : Wd K mg) : NoAttr K (gA K "ListCertificate") "_begin" := noat_of (c.ok 16 rfl) (by decide)
theorem Wd.a_ListCertificate_end {K : Frag} {mg : Str → Option Value} (c : Wd K mg) : NoAttr K (gA K "ListCertificate") "_end" := noat_of (c.ok 16 rfl) (by decide)
theorem Wd.a_ListCertificate_saying {K : Frag} {mg : Str → Option Value} (c : Wd K mg) : NoAttr K (gA K "ListCertificate") "_saying" := noat_of (c.ok 16 rfl) (by decide)
theorem Wd.a_ListCertificate_coats {K : Frag} {mg : Str → Option Value} (c : Wd K mg) : NoAttr K (gA K "ListCertificate") "_coats" := noat_of (c.ok 16 rfl) (by decide)
theorem Wd.a_Calendar_words {K : Frag} {mg : Str → Option Value} (c : Wd K mg) : NoAttr K (gA K "Calendar") "_words" := noat_of (c.ok 17 rfl) (by decide)
theorem Wd.m_Coat_text {K : Frag} {mg : Str → Option Value} (c : Wd K mg) : Meth K (gA K "Coat") "text" (mA K "Coat" "text") := meth_of (c.ok 18 rfl) (by decide)
theorem Wd.m_Coat_count {K : Frag} {mg : Str → Option Value} (c : Wd K mg) : Meth K (gA K "Coat") "count" (mA K "Coat" "count") := meth_of (c.ok 18 rfl) (by decide)
theorem Wd.m_Coat_mul {K : Frag} {mg : Str → Option Value} (c : Wd K mg) : Meth K (gA K "Coat") "__mul__" (mA K "Coat" "__mul__") := meth_of (c.ok 18 rfl) (by decide)
theorem Wd.m_Coat_eq {K : Frag} {mg : Str → Option Value} (c : Wd K mg) : Meth K (gA K "Coat") "__eq__" (mA K "Coat" "__eq__") := meth_of (c.ok 18 rfl) (by decide)
theorem Wd.m_Kinds_page_of {K : Frag} {mg : Str → Option Value} (c : Wd K mg) : Meth K (gA K "Kinds") "page_of" (mA K "Kinds" "page_of") := meth_of (c.ok 19 rfl) (by decide)
theorem Wd.m_Kinds_len {K : Frag} {mg : Str → Option Value} (c : Wd K mg) : Meth K (gA K "Kinds") "__len__" (mA K "Kinds" "__len__") := meth_of (c.ok 19 rfl) (by decide)
theorem Wd.m_Kinds_iter {K : Frag} {mg : Str → Option Value} (c : Wd K mg) : Meth K (gA K "Kinds") "__iter__" (mA K "Kinds" "__iter__") := meth_of (c.ok 19 rfl) (by decide)
theorem Wd.m_Saying_stretches {K : Frag} {mg : Str → Option Value} (c : Wd K mg) : Meth K (gA K "Saying") "stretches" (mA K "Saying" "stretches") := meth_of (c.ok 20 rfl) (by decide)
theorem Wd.m_Saying_moved {K : Frag} {mg : Str → Option Value} (c : Wd K mg) : Meth K (gA K "Saying") "moved" (mA K "Saying" "moved") := meth_of (c.ok 20 rfl) (by decide)
theorem Wd.m_Saying_call {K : Frag} {mg : Str → Option Value} (c : Wd K mg) : Meth K (gA K "Saying") "__call__" (mA K "Saying" "__call__") := meth_of (c.ok 20 rfl) (by decide)
theorem Wd.m_Saying_and {K : Frag} {mg : Str → Option Value} (c : Wd K mg) : Meth K (gA K "Saying") "__and__" (mA K "Saying" "__and__") := meth_of (c.ok 20 rfl) (by decide)
theorem Wd.m_Saying_or {K : Frag} {mg : Str → Option Value} (c : Wd K mg) : Meth K (gA K "Saying") "__or__" (mA K "Saying" "__or__") := meth_of (c.ok 20 rfl) (by decide)
theorem Wd.m_Saying_invert {K : Frag} {mg : Str → Option Value} (c : Wd K mg) : Meth K (gA K "Saying") "__invert__" (mA K "Saying" "__invert__") := meth_of (c.ok 20 rfl) (by decide)
theorem Wd.m_PageCertificate_judged {K : Frag} {mg : Str → Option Value} (c : Wd K mg) : Meth K (gA K "PageCertificate") "judged" (mA K "PageCertificate" "judged") := meth_of (c.ok 21 rfl) (by decide)
theorem Wd.m_PageCertificate_claim {K : Frag} {mg : Str → Option Value} (c : Wd K mg) : Meth K (gA K "PageCertificate") "claim" (mA K "PageCertificate" "claim") := meth_of (c.ok 21 rfl) (by decide)
theorem Wd.m_ListCertificate_judged {K : Frag} {mg : Str → Option Value} (c : Wd K mg) : Meth K (gA K "ListCertificate") "judged" (mA K "ListCertificate" "judged") := meth_of (c.ok 22 rfl) (by decide)
theorem Wd.m_ListCertificate_claim {K : Frag} {mg : Str → Option Value} (c : Wd K mg) : Meth K (gA K "ListCertificate") "claim" (mA K "ListCertificate" "claim") := meth_of (c.ok 22 rfl) (by decide)
theorem Wd.m_Calendar_stands {K : Frag} {mg : Str → Option Value} (c : Wd K mg) : Meth K (gA K "Calendar") "stands" (mA K "Calendar" "stands") := meth_of (c.ok 23 rfl) (by decide)
theorem Wd.m_Calendar_len {K : Frag} {mg : Str → Option Value} (c : Wd K mg) : Meth K (gA K "Calendar") "__len__" (mA K "Calendar" "__len__") := meth_of (c.ok 23 rfl) (by decide)
theorem Wd.p_Coat_places {K : Frag} {mg : Str → Option Value} (c : Wd K mg) : PropOf K (gA K "Coat") "places" (mA K "Coat" "places") (pA K "Coat" "places") := prop_of (c.ok 24 rfl)
theorem Wd.p_Calendar_places {K : Frag} {mg : Str → Option Value} (c : Wd K mg) : PropOf K (gA K "Calendar") "places" (mA K "Calendar" "places") (pA K "Calendar" "places") := prop_of (c.ok 25 rfl)
theorem Wd.p_Calendar_signs {K : Frag} {mg : Str → Option Value} (c : Wd K mg) : PropOf K (gA K "Calendar") "signs" (mA K "Calendar" "signs") (pA K "Calendar" "signs") := prop_of (c.ok 26 rfl)
theorem Wd.s_Coat_plain {K : Frag} {mg : Str → Option Value} (c : Wd K mg) : SMet K (gA K "Coat") "plain" (mA K "Coat" "plain") (sA K "Coat" "plain") := smet_of (c.ok 27 rfl) (c.ok 29 rfl) (c.f_Coat_plain).kp
theorem Wd.s_Coat_entry {K : Frag} {mg : Str → Option Value} (c : Wd K mg) : SMet K (gA K "Coat") "entry" (mA K "Coat" "entry") (sA K "Coat" "entry") := smet_of (c.ok 27 rfl) (c.ok 30 rfl) (c.f_Coat_entry).kp
theorem Wd.s_Saying_least {K : Frag} {mg : Str → Option Value} (c : Wd K mg) : SMet K (gA K "Saying") "least" (mA K "Saying" "least") (sA K "Saying" "least") := smet_of (c.ok 28 rfl) (c.ok 31 rfl) (c.f_Saying_least).kp
theorem Wd.is_PageCertificate_Certificate {K : Frag} {mg : Str → Option Value} (c : Wd K mg) : PySem.W.kitOne K (.ref (gA K "PageCertificate")) (.ref (gA K "Certificate")) = some true := of_decide_eq_true (c.ok2 0 rfl)
theorem Wd.is_ListCertificate_Certificate {K : Frag} {mg : Str → Option Value} (c : Wd K mg) : PySem.W.kitOne K (.ref (gA K "ListCertificate")) (.ref (gA K "Certificate")) = some true := of_decide_eq_true (c.ok2 1 rfl)
theorem Wd.is_PageCertificate_PageCertificate {K : Frag} {mg : Str → Option Value} (c : Wd K mg) : PySem.W.kitOne K (.ref (gA K "PageCertificate")) (.ref (gA K "PageCertificate")) = some true := of_decide_eq_true (c.ok2 2 rfl)
theorem Wd.is_PageCertificate_ListCertificate {K : Frag} {mg : Str → Option Value} (c : Wd K mg) : PySem.W.kitOne K (.ref (gA K "PageCertificate")) (.ref (gA K "ListCertificate")) = some false := of_decide_eq_true (c.ok2 3 rfl)
theorem Wd.is_ListCertificate_PageCertificate {K : Frag} {mg : Str → Option Value} (c : Wd K mg) : PySem.W.kitOne K (.ref (gA K "ListCertificate")) (.ref (gA K "PageCertificate")) = some false := of_decide_eq_true (c.ok2 4 rfl)
theorem Wd.is_ListCertificate_ListCertificate {K : Frag} {mg : Str → Option Value} (c : Wd K mg) : PySem.W.kitOne K (.ref (gA K "ListCertificate")) (.ref (gA K "ListCertificate")) = some true := of_decide_eq_true (c.ok2 5 rfl)
theorem Wd.is_Coat_Coat {K : Frag} {mg : Str → Option Value} (c : Wd K mg) : PySem.W.kitOne K (.ref (gA K "Coat")) (.ref (gA K "Coat")) = some true := of_decide_eq_true (c.ok2 6 rfl)
theorem Wd.is_BadStretch_OutOfWindow {K : Frag} {mg : Str → Option Value} (c : Wd K mg) : PySem.W.kitOne K (.ref (gA K "BadStretch")) (.ref (gA K "OutOfWindow")) = some false := of_decide_eq_true (c.ok2 19 rfl)
theorem Wd.is_BadStretch_BadSigns {K : Frag} {mg : Str → Option Value} (c : Wd K mg) : PySem.W.kitOne K (.ref (gA K "BadStretch")) (.ref (gA K "BadSigns")) = some false := of_decide_eq_true (c.ok2 20 rfl)
theorem Wd.is_BadStretch_TooLong {K : Frag} {mg : Str → Option Value} (c : Wd K mg) : PySem.W.kitOne K (.ref (gA K "BadStretch")) (.ref (gA K "TooLong")) = some false := of_decide_eq_true (c.ok2 21 rfl)
theorem Wd.is_BadStretch_BadStretch {K : Frag} {mg : Str → Option Value} (c : Wd K mg) : PySem.W.kitOne K (.ref (gA K "BadStretch")) (.ref (gA K "BadStretch")) = some true := of_decide_eq_true (c.ok2 22 rfl)
theorem Wd.is_TooLong_OutOfWindow {K : Frag} {mg : Str → Option Value} (c : Wd K mg) : PySem.W.kitOne K (.ref (gA K "TooLong")) (.ref (gA K "OutOfWindow")) = some false := of_decide_eq_true (c.ok2 23 rfl)
theorem Wd.is_TooLong_BadSigns {K : Frag} {mg : Str → Option Value} (c : Wd K mg) : PySem.W.kitOne K (.ref (gA K "TooLong")) (.ref (gA K "BadSigns")) = some false := of_decide_eq_true (c.ok2 24 rfl)
theorem Wd.is_TooLong_TooLong {K : Frag} {mg : Str → Option Value} (c : Wd K mg) : PySem.W.kitOne K (.ref (gA K "TooLong")) (.ref (gA K "TooLong")) = some true := of_decide_eq_true (c.ok2 25 rfl)
theorem Wd.is_OutOfWindow_OutOfWindow {K : Frag} {mg : Str → Option Value} (c : Wd K mg) : PySem.W.kitOne K (.ref (gA K "OutOfWindow")) (.ref (gA K "OutOfWindow")) = some true := of_decide_eq_true (c.ok2 26 rfl)
theorem Wd.is_BadSigns_OutOfWindow {K : Frag} {mg : Str → Option Value} (c : Wd K mg) : PySem.W.kitOne K (.ref (gA K "BadSigns")) (.ref (gA K "OutOfWindow")) = some false := of_decide_eq_true (c.ok2 27 rfl)
theorem Wd.is_BadSigns_BadSigns {K : Frag} {mg : Str → Option Value} (c : Wd K mg) : PySem.W.kitOne K (.ref (gA K "BadSigns")) (.ref (gA K "BadSigns")) = some true := of_decide_eq_true (c.ok2 28 rfl)
theorem Wd.ty_PageCertificate {K : Frag} {mg : Str → Option Value} (c : Wd K mg) : tyB "PageCertificate" K = true := c.ok2 7 rfl
theorem Wd.ty_ListCertificate {K : Frag} {mg : Str → Option Value} (c : Wd K mg) : tyB "ListCertificate" K = true := c.ok2 8 rfl
theorem Wd.ty_Coat {K : Frag} {mg : Str → Option Value} (c : Wd K mg) : tyB "Coat" K = true := c.ok2 9 rfl
theorem Wd.ty_BadStretch {K : Frag} {mg : Str → Option Value} (c : Wd K mg) : tyB "BadStretch" K = true := c.ok2 29 rfl
theorem Wd.ty_TooLong {K : Frag} {mg : Str → Option Value} (c : Wd K mg) : tyB "TooLong" K = true := c.ok2 30 rfl
theorem Wd.ty_OutOfWindow {K : Frag} {mg : Str → Option Value} (c : Wd K mg) : tyB "OutOfWindow" K = true := c.ok2 31 rfl
theorem Wd.ty_BadSigns {K : Frag} {mg : Str → Option Value} (c : Wd K mg) : tyB "BadSigns" K = true := c.ok2 32 rfl
theorem Wd.sf_Coat {K : Frag} {mg : Str → Option Value} (c : Wd K mg) : PySem.W.selfFirst K (gA K "Coat") = true := (He.ba (show (PySem.W.selfFirst K (gA K "Coat") && _) = true from c.ok2 33 rfl)).1
theorem Wd.sf_Saying {K : Frag} {mg : Str → Option Value} (c : Wd K mg) : PySem.W.selfFirst K (gA K "Saying") = true := (He.ba (show (PySem.W.selfFirst K (gA K "Saying") && _) = true from c.ok2 34 rfl)).1
theorem Wd.k_MOST_PLACES {K : Frag} {mg : Str → Option Value} (c : Wd K mg) : ∃ t, mg "MOST_PLACES" = some (.int 6 t) := c.num (c.ok2 35 rfl)
theorem Wd.k_MOST_WINDOW {K : Frag} {mg : Str → Option Value} (c : Wd K mg) : ∃ t, mg "MOST_WINDOW" = some (.int 5 t) := c.num (c.ok2 36 rfl)
theorem Wd.k_LETTERS_coatrules {K : Frag} {mg : Str → Option Value} (c : Wd K mg) : ∃ t, mg "LETTERS_coatrules" = some (.str "abcdef" t) := c.txt (c.ok2 37 rfl)
theorem Wd.k_LETTERS_calendars {K : Frag} {mg : Str → Option Value} (c : Wd K mg) : ∃ t, mg "LETTERS_calendars" = some (.str "abcdefghijklmnopqrstuvwxyz" t) := c.txt (c.ok2 38 rfl)
theorem Wd.ox_BadStretch {K : Frag} {mg : Str → Option Value} (c : Wd K mg) : OexC K (gA K "BadStretch") := (exc_of (c.ok2 15 rfl)).1
theorem Wd.oi_BadStretch {K : Frag} {mg : Str → Option Value} (c : Wd K mg) : PySem.W.findIn K (.ref (gA K "BadStretch")) "__init__" = some (some (.ref (mA K "BadStretch" "__init__"))) := (exc_of (c.ok2 15 rfl)).2.1
theorem Wd.ot_BadStretch {K : Frag} {mg : Str → Option Value} (c : Wd K mg) : PySem.W.typeIn K (.ref (mA K "BadStretch" "__init__")) = some (.type "function") := eq_of_beq (c.isf 77 rfl)
theorem Wd.oe_BadStretch {K : Frag} {mg : Str → Option Value} (c : Wd K mg) : PySem.W.exmOne K (.ref (gA K "BadStretch")) (.ref (gA K "RollError")) = some true := (exc_of (c.ok2 15 rfl)).2.2.1
theorem Wd.oxf_BadStretch {K : Frag} {mg : Str → Option Value} (c : Wd K mg) : XfC K (gA K "BadStretch") := (exc_of (c.ok2 15 rfl)).2.2.2.1
theorem Wd.on_BadStretch_begin {K : Frag} {mg : Str → Option Value} (c : Wd K mg) : PySem.W.findIn K (.ref (gA K "BadStretch")) "begin" = some none := (exc_of (c.ok2 15 rfl)).2.2.2.2 "begin" (by decide)
theorem Wd.on_BadStretch_end {K : Frag} {mg : Str → Option Value} (c : Wd K mg) : PySem.W.findIn K (.ref (gA K "BadStretch")) "end" = some none := (exc_of (c.ok2 15 rfl)).2.2.2.2 "end" (by decide)
theorem Wd.ox_TooLong {K : Frag} {mg : Str → Option Value} (c : Wd K mg) : OexC K (gA K "TooLong") := (exc_of (c.ok2 16 rfl)).1
theorem Wd.oi_TooLong {K : Frag} {mg : Str → Option Value} (c : Wd K mg) : PySem.W.findIn K (.ref (gA K "TooLong")) "__init__" = some (some (.ref (mA K "TooLong" "__init__"))) := (exc_of (c.ok2 16 rfl)).2.1
theorem Wd.ot_TooLong {K : Frag} {mg : Str → Option Value} (c : Wd K mg) : PySem.W.typeIn K (.ref (mA K "TooLong" "__init__")) = some (.type "function") := eq_of_beq (c.isf 78 rfl)
theorem Wd.oe_TooLong {K : Frag} {mg : Str → Option Value} (c : Wd K mg) : PySem.W.exmOne K (.ref (gA K "TooLong")) (.ref (gA K "RollError")) = some true := (exc_of (c.ok2 16 rfl)).2.2.1
theorem Wd.oxf_TooLong {K : Frag} {mg : Str → Option Value} (c : Wd K mg) : XfC K (gA K "TooLong") := (exc_of (c.ok2 16 rfl)).2.2.2.1
theorem Wd.on_TooLong_length {K : Frag} {mg : Str → Option Value} (c : Wd K mg) : PySem.W.findIn K (.ref (gA K "TooLong")) "length" = some none := (exc_of (c.ok2 16 rfl)).2.2.2.2 "length" (by decide)
theorem Wd.ox_OutOfWindow {K : Frag} {mg : Str → Option Value} (c : Wd K mg) : OexC K (gA K "OutOfWindow") := (exc_of (c.ok2 17 rfl)).1
theorem Wd.oi_OutOfWindow {K : Frag} {mg : Str → Option Value} (c : Wd K mg) : PySem.W.findIn K (.ref (gA K "OutOfWindow")) "__init__" = some (some (.ref (mA K "OutOfWindow" "__init__"))) := (exc_of (c.ok2 17 rfl)).2.1
theorem Wd.ot_OutOfWindow {K : Frag} {mg : Str → Option Value} (c : Wd K mg) : PySem.W.typeIn K (.ref (mA K "OutOfWindow" "__init__")) = some (.type "function") := eq_of_beq (c.isf 79 rfl)
theorem Wd.oe_OutOfWindow {K : Frag} {mg : Str → Option Value} (c : Wd K mg) : PySem.W.exmOne K (.ref (gA K "OutOfWindow")) (.ref (gA K "RollError")) = some true := (exc_of (c.ok2 17 rfl)).2.2.1
theorem Wd.oxf_OutOfWindow {K : Frag} {mg : Str → Option Value} (c : Wd K mg) : XfC K (gA K "OutOfWindow") := (exc_of (c.ok2 17 rfl)).2.2.2.1
theorem Wd.on_OutOfWindow_begin {K : Frag} {mg : Str → Option Value} (c : Wd K mg) : PySem.W.findIn K (.ref (gA K "OutOfWindow")) "begin" = some none := (exc_of (c.ok2 17 rfl)).2.2.2.2 "begin" (by decide)
theorem Wd.on_OutOfWindow_end {K : Frag} {mg : Str → Option Value} (c : Wd K mg) : PySem.W.findIn K (.ref (gA K "OutOfWindow")) "end" = some none := (exc_of (c.ok2 17 rfl)).2.2.2.2 "end" (by decide)
theorem Wd.ox_BadSigns {K : Frag} {mg : Str → Option Value} (c : Wd K mg) : OexC K (gA K "BadSigns") := (exc_of (c.ok2 18 rfl)).1
theorem Wd.oi_BadSigns {K : Frag} {mg : Str → Option Value} (c : Wd K mg) : PySem.W.findIn K (.ref (gA K "BadSigns")) "__init__" = some (some (.ref (mA K "BadSigns" "__init__"))) := (exc_of (c.ok2 18 rfl)).2.1
theorem Wd.ot_BadSigns {K : Frag} {mg : Str → Option Value} (c : Wd K mg) : PySem.W.typeIn K (.ref (mA K "BadSigns" "__init__")) = some (.type "function") := eq_of_beq (c.isf 80 rfl)
theorem Wd.oe_BadSigns {K : Frag} {mg : Str → Option Value} (c : Wd K mg) : PySem.W.exmOne K (.ref (gA K "BadSigns")) (.ref (gA K "RollError")) = some true := (exc_of (c.ok2 18 rfl)).2.2.1
theorem Wd.oxf_BadSigns {K : Frag} {mg : Str → Option Value} (c : Wd K mg) : XfC K (gA K "BadSigns") := (exc_of (c.ok2 18 rfl)).2.2.2.1
theorem Wd.on_BadSigns_index {K : Frag} {mg : Str → Option Value} (c : Wd K mg) : PySem.W.findIn K (.ref (gA K "BadSigns")) "index" = some none := (exc_of (c.ok2 18 rfl)).2.2.2.2 "index" (by decide)
theorem Wd.cv_MOST {K : Frag} {mg : Str → Option Value} (c : Wd K mg) : ClX.CRead K (gA K "Coat") (.type "type") ∧ ∃ u, ClX.CVal K (gA K "Coat") (.type "type") "MOST_PLACES" (.int 5) u := by
  obtain ⟨h1, h2⟩ := He.ba (show readB "Coat" K = true from c.ok 27 rfl)
  refine ⟨⟨h1, of_decide_eq_true h2⟩, ?_⟩
  have h : constB "Coat" "MOST_PLACES" 5 K = true := c.ok 32 rfl
  unfold constB at h
  cases q : PySem.W.findCls K (.ref (gA K "Coat")) (.type "type") "MOST_PLACES" with
  | none => rw [q] at h; cases h
  | some l =>
    rw [q] at h
    cases l with
    | val v =>
      cases v with
      | int j t => exact ⟨_, q, by rw [← of_decide_eq_true h]; exact ⟨t, rfl⟩⟩
      | _ => cases h
    | _ => cases h
theorem hu64 {k : Nat} {A : Around} (hr : Room k A) : A.units + 64 < cLine := by have := hr.un; omega

section
variable {X : Cx} {x z : Str} {i : Int} {p : Pos}
theorem pe_cls {C : Addr} (hg : Gl X x) (h : X.mg x = some (.ref C)) (hdb : (x == ("__debug__" : Str)) = false := by decide) : PE X (.Name x p) (tC (.ref C)) := pe_glob (v := .ref C) hg h rfl (hd := hdb)
theorem pe_txt (hg : Gl X x) (h : ∃ t, X.mg x = some (.str z t)) (hdb : (x == ("__debug__" : Str)) = false := by decide) : PE X (.Name x p) (tC (.str z)) := by
  obtain ⟨t, e⟩ := h
  exact pe_glob (v := .str z) hg e ⟨t, rfl⟩ (hd := hdb)
theorem pe_num (hg : Gl X x) (h : ∃ t, X.mg x = some (.int i t)) (hdb : (x == ("__debug__" : Str)) = false := by decide) : PE X (.Name x p) (tC (.int i)) := by
  obtain ⟨t, e⟩ := h
  exact pe_glob (v := .int i) hg e ⟨t, rfl⟩ (hd := hdb)
end
/-! ### the heap grows -/
abbrev Ex := Evl.Ex
def rFld (K : Frag) (f : Str) (x : V) (H : Hp) (Q : VK) : Prop := ∃ a C dx fs v, x = .ref a ∧ H a = some (.ins C dx fs) ∧ Cls K C ∧ NoAttr K C f ∧ fs.lookup f = some v ∧ Q v H
def rSFld (K : Frag) (f : Str) (x y : V) (H : Hp) (Q : Hp → Prop) : Prop := ∃ a C dx fs, x = .ref a ∧ H a = some (.ins C dx fs) ∧ Cls K C ∧ NoAttr K C f ∧ fs.length < 1000 ∧ Q (upd H a (.ins C dx (putF f y fs)))
def rInst (C : Addr) (m : Str) (x : V) (H : Hp) (P : Prop) : Prop := ∃ a dx fs, x = .ref a ∧ H a = some (.ins C dx fs) ∧ fs.lookup m = none ∧ P
def rProp (C : Addr) (x : V) (H : Hp) (P : Addr → Prop) : Prop := ∃ a dx fs, x = .ref a ∧ H a = some (.ins C dx fs) ∧ P a
def rMake (C : Addr) (P : Addr → Hp → Prop) (H : Hp) : Prop := ∀ x dx, H x = none → H dx = none → dx ≠ x → P x (upd (upd H dx (.own x)) x (.ins C dx []))
def rOst (K : Frag) (f : Str) (x y : V) (H2 : Hp) (Q : Hp → Prop) : Prop := ∃ a C : Addr, x = .ref a ∧ OexC K C ∧ PySem.W.findIn K (.ref C) f = some none ∧
  ((H2 a = some (exo a C none) ∧ ∀ dx, H2 dx = none → dx ≠ a → Q (upd (upd H2 dx (exd dx [(f, y)])) a (exo a C (some dx)))) ∨
    ∃ (dx : Addr) (fs : List (Str × V)), H2 a = some (exo a C (some dx)) ∧ H2 dx = some (exd dx fs) ∧ fs.length ≤ 900 ∧ Q (upd H2 dx (exd dx ((f, y) :: fs))))
def rMkO (C : Addr) (P : Addr → Hp → VK → Prop) (vs : List V) (H1 : Hp) (Q : XK) : Prop := vs.length ≤ 1000 ∧ ∀ a, H1 a = none → P a (upd H1 a (exo a C none))
  (fun v H2 => v = .non ∧ ∃ (d : Addr) (fs : List (Str × V)), H2 a = some (exo a C (some d)) ∧ H2 d = some (exd d fs) ∧ H1 d = none ∧ Q (.ref C) (some d) (upd (del H2 a) d (.xd fs)))
/-! ### what a reading asks, one step each (applied forms) -/
section
variable {K : Frag} {D : Ends} {σ : L2.St} {H : Hp} {ta tb te tc : TE} {tr t : TA} {g : TG} {i : Nat} {v : V} {r r' : R2} {Q : VK} {QT : Bool → Hp → Prop} {QA : List V → Hp → Prop} {s1 s2 : TS} {tt uu : TT}
theorem ap_seq : tSeq s1 s2 D σ H = s1 { D with nx := s2 D } σ H := rfl
theorem ap_next : tNext D σ H = D.nx σ H := rfl
theorem ap_asg : tAsg te g D σ H = te σ H fun x H1 => g x σ H1 D.nx := rfl
theorem ap_name {Q : L2.St → Hp → Prop} : gName i v σ H Q = Q (σ.set i (some v)) H := rfl
theorem ap_ret : tRet te D σ H = te σ H D.rt := rfl
theorem ap_retN : tRetN D σ H = D.rt .non H := rfl
theorem ap_drop : tDrop te D σ H = te σ H fun _ H1 => D.nx σ H1 := rfl
theorem ap_ifS : tIfS tt s1 s2 D σ H = tt σ H fun b H1 => if b = true then s1 D σ H1 else s2 D σ H1 := rfl
theorem ap_c : tC v σ H Q = Q v H := rfl
theorem ap_var : tVar i σ H Q = ∃ v, σ[i]? = some (some v) ∧ Q v H := rfl
theorem ap_op : tOp r ta tb σ H Q = ta σ H fun x H1 => tb σ H1 fun y H2 => r x y H2 Q := rfl
theorem ap_un {r : V → Hp → VK → Prop} : tUn r ta σ H Q = ta σ H fun x H1 => r x H1 Q := rfl
theorem ap_chain : tChain r r' ta tb tc σ H Q = ta σ H fun x H1 => tb σ H1 fun y H2 => r x y H2 fun z H3 => ∃ k, z = .bl k ∧ (if k = true then tc σ H3 fun w' H4 => r' y w' H4 Q else Q (.bl false) H3) := rfl
theorem ap_test : tTest te σ H QT = te σ H fun x H' => ∃ k, x = .bl k ∧ QT k H' := rfl
theorem ap_B : tB te σ H QT = te σ H fun x H1 => ∃ c, x = .bl c ∧ QT c H1 := rfl
theorem ap_and : tAnd tt uu σ H QT = tt σ H fun c H1 => if c = true then uu σ H1 QT else QT false H1 := rfl
theorem ap_or : tOr tt uu σ H QT = tt σ H fun c H1 => if c = true then QT true H1 else uu σ H1 QT := rfl
theorem ap_not : tNot tt σ H QT = tt σ H fun c H1 => QT (!c) H1 := rfl
theorem ap_yes : tYes σ H QT = QT true H := rfl
theorem ap_andV : tAndV ta tb σ H Q = ta σ H fun x H1 => ∃ c, x = .bl c ∧ if c = true then tb σ H1 Q else Q (.bl false) H1 := rfl
theorem ap_orV : tOrV ta tb σ H Q = ta σ H fun x H1 => ∃ c, x = .bl c ∧ if c = true then Q (.bl true) H1 else tb σ H1 Q := rfl
theorem ap_notV : tNotV ta σ H Q = ta σ H fun x H1 => ∃ c, x = .bl c ∧ Q (.bl (!c)) H1 := rfl
theorem ap_if : tIf tt ta tb σ H Q = tt σ H fun c H1 => if c = true then ta σ H1 Q else tb σ H1 Q := rfl
theorem ap_nil : tNil σ H QA = QA [] H := rfl
theorem ap_cons : tCons ta tr σ H QA = ta σ H fun x H1 => tr σ H1 fun xs H2 => QA (x :: xs) H2 := rfl
theorem ap_cb {r : List V → Hp → VK → Prop} : tCB r t σ H Q = t σ H fun vs H1 => r vs H1 Q := rfl
theorem ap_lst : tLst t σ H Q = t σ H fun xs H1 => xs.length ≤ sizeLine ∧ ∀ p, H1 p = none → Q (.ref p) (upd H1 p (.lst xs)) := rfl
theorem ap_tup : tTup t σ H Q = t σ H fun xs H1 => xs.length ≤ sizeLine ∧ ∀ p, H1 p = none → Q (.ref p) (upd H1 p (.tup xs)) := rfl
theorem ap_bm {T : String} {r : V → List V → Hp → VK → Prop} : tBM K T r te t σ H Q = te σ H fun x H1 => tyV K T x H1 ∧ t σ H1 fun xs H2 => r x xs H2 Q := rfl
theorem ap_bm0 {T : String} {r : V → List V → Hp → VK → Prop} : tBM0 K T r te σ H Q = te σ H fun x H1 => tyV K T x H1 ∧ r x [] H1 Q := rfl
theorem ap_m1 {r : V → List V → Hp → VK → Prop} : tM1 r te ta σ H Q = te σ H fun x H1 => (∃ a, x = .str a) ∧ ta σ H1 fun y H2 => r x [y] H2 Q := rfl
theorem ap_call {sp : Sp} {dvs : List V} {E : XK} : tCall sp dvs E t σ H Q = t σ H fun vs H1 => sp (vs ++ dvs) H1 Q E := rfl
theorem ap_sl {r : V → Option Int → Option Int → Hp → VK → Prop} {tl th : TO} : L2.tSl r te tl th σ H Q = te σ H fun x H1 => tl σ H1 fun l H2 => th σ H2 fun u H3 => r x l u H3 Q := rfl
theorem ap_part {QO : Option Int → Hp → Prop} : tPart te σ H QO = te σ H fun x H1 => ∃ i, x = .int i ∧ QO (some i) H1 := rfl
theorem ap_nopart {QO : Option Int → Hp → Prop} : tNoPart σ H QO = QO none H := rfl
theorem ap_rI0 {g : Int → Int → V} {x y : V} : rI0 g x y H Q = ∃ i j, x = .int i ∧ y = .int j ∧ Q (g i j) H := rfl
theorem ap_rI {C : Int → Int → Prop} {g : Int → Int → V} {x y : V} : rI C g x y H Q = ∃ i j, x = .int i ∧ y = .int j ∧ C i j ∧ Q (g i j) H := rfl
theorem ap_rU {g : Int → V} {x : V} : rU g x H Q = ∃ i, x = .int i ∧ Q (g i) H := rfl
theorem ap_eqI {i j : Int} : rEq (.int i) (.int j) H Q = Q (.bl (decide (i = j))) H := by simp only [rEq, scal, true_and, V.int.injEq]
theorem ap_neI {i j : Int} : rNe (.int i) (.int j) H Q = Q (.bl (!decide (i = j))) H := by simp only [rNe, scal, true_and, V.int.injEq]
theorem ap_eqS {i j : Str} : rEq (.str i) (.str j) H Q = Q (.bl (decide (i = j))) H := by simp only [rEq, scal, true_and, V.str.injEq]
theorem ap_neS {i j : Str} : rNe (.str i) (.str j) H Q = Q (.bl (!decide (i = j))) H := by simp only [rNe, scal, true_and, V.str.injEq]
theorem ap_eqB {i j : Bool} : rEq (.bl i) (.bl j) H Q = Q (.bl (decide (i = j))) H := by simp only [rEq, scal, true_and, V.bl.injEq]
theorem ap_neB {i j : Bool} : rNe (.bl i) (.bl j) H Q = Q (.bl (!decide (i = j))) H := by simp only [rNe, scal, true_and, V.bl.injEq]
theorem ap_fld {f : Str} : tFld K te f σ H Q = te σ H fun x H1 => rFld K f x H1 Q := rfl
theorem ap_sfld {f : Str} : sFld K ta te f D σ H = te σ H fun y H1 => ta σ H1 fun x H2 => rSFld K f x y H2 (D.nx σ) := rfl
theorem ap_meth {C : Addr} {m : Str} {sp : Sp} {dvs : List V} {E : XK} : tMeth C m sp dvs E ta t σ H Q = ta σ H fun x H1 => rInst C m x H1 (t σ H1 fun vs H2 => sp (x :: (vs ++ dvs)) H2 Q E) := rfl
theorem ap_prop {C : Addr} {sp : Sp} {dvs : List V} {E : XK} : tProp C sp dvs E ta σ H Q = ta σ H fun x H1 => rProp C x H1 fun a => sp (.ref a :: dvs) H1 Q E := rfl
theorem ap_make {C : Addr} {sp : Sp} {dvs : List V} {E : XK} : tMake C sp dvs E t σ H Q = t σ H fun vs H1 => rMake C (fun x H2 => sp (.ref x :: (vs ++ dvs)) H2 (fun v H3 => v = .non ∧ Q (.ref x) H3) E) H1 := rfl
theorem ap_smeth {C : Addr} {sp : Sp} {E : XK} : tSMeth C sp E ta t σ H Q = ta σ H fun x H1 => x = .ref C ∧ t σ H1 fun vs H2 => sp vs H2 Q E := rfl
theorem ap_never : tNever D σ H = False := rfl
theorem ap_ost {f : Str} : tOst K f ta te D σ H = te σ H fun y H1 => ta σ H1 fun x H2 => rOst K f x y H2 (D.nx σ) := rfl
theorem ap_callS {sp : Sp} {E : L2.St → XK} : tCallS sp E t σ H Q = t σ H fun vs H1 => sp vs H1 Q (E σ) := rfl
theorem ap_mko {C : Addr} {sp : Sp} {dvs : List V} {QX : XK} : tMkO C sp dvs t σ H QX = t σ H fun vs H1 => rMkO C (fun a H2 Q2 => sp (.ref a :: (vs ++ dvs)) H2 Q2 (fun _ _ _ => False)) vs H1 QX := rfl
theorem ap_tup_ {n : Nat} {ts : TGs} {Q : L2.St → Hp → Prop} : gTup K n ts v σ H Q = ∃ a xs, v = .ref a ∧ SqT K H a xs ∧ xs.length = n ∧ ts xs σ H Q := rfl
theorem ap_gcons {ts : TGs} {vs : List V} {Q : L2.St → Hp → Prop} : gCons g ts vs σ H Q = ∃ v r, vs = v :: r ∧ g v σ H fun σ' H' => ts r σ' H' Q := rfl
theorem ap_gnil {vs : List V} {Q : L2.St → Hp → Prop} : gNil vs σ H Q = (vs = [] ∧ Q σ H) := rfl
theorem ap_gsub {ts : TSet} {Q : L2.St → Hp → Prop} : gSub ta tb ts v σ H Q = ta σ H fun o H1 => tb σ H1 fun i H2 => ts o i v H2 fun H3 => Q σ H3 := rfl
end

section
variable {CX : CXT} {P : Program} {w : World} {K : Frag} {mg : Str → Option Value} {base : Heap} {N : List Str} {q : Str} {sc : Scope} {f : Addr} {cd : Value} {A : Around} {o : List Env} {s : Shared} {H : Hp} {E : XK}
theorem ap_K1 : (cxOf CX P w K mg base N q sc f cd A o s H E).K = K := rfl
theorem ap_K2 : (cxOf CX P w K mg base N q sc f cd A o s H E).nox.K = K := rfl
end
section
variable {K : Frag} {D : Ends} {σ : L2.St} {H : Hp} {ta : TE} {Q : VK} {tr : L2.St → Hp → (Int → Int → Hp → Prop) → Prop} {f : Str}
def rCVal (K : Frag) (f : Str) (x : V) (H1 : Hp) (Q : VK) : Prop := ∃ C mc v u, x = .ref C ∧ ClX.CRead K C mc ∧ ClX.CVal K C mc f v u ∧ Q v H1
theorem ap_cval : ClX.tCVal K ta f σ H Q = ta σ H fun x H1 => rCVal K f x H1 Q := rfl
theorem ap_listRg : tLstRg tr σ H Q = tr σ H fun a b H1 => RgOk a b ∧ ∀ q, H1 q = none → Q (.ref q) (upd H1 q (.lst (rgV a b))) := rfl
theorem ap_rg1 {QR : Int → Int → Hp → Prop} : tRg1 ta σ H QR = ta σ H fun x H1 => ∃ n, x = .int n ∧ QR 0 n H1 := rfl
end
def rTupV (K : Frag) : List V → Hp → VK → Prop := fun xs H Q => ∃ p ys, xs = [.ref p] ∧ ((SqL K H p ys ∧ ∀ l, H l = none → Q (.ref l) (upd H l (.tup ys))) ∨ (SqT K H p ys ∧ Q (.ref p) H))
theorem call_tupleV {X : Cx} : CallR X (.type "tuple") (rTupV X.K) := call_tuple_of
def rListV (K : Frag) : List V → Hp → VK → Prop := fun xs H Q => ∃ p ys, xs = [.ref p] ∧ (SqL K H p ys ∨ SqT K H p ys) ∧ ∀ l, H l = none → Q (.ref l) (upd H l (.lst ys))
theorem call_listV {X : Cx} : CallR X (.type "list") (rListV X.K) := call_list_of
theorem tup_l {K : Frag} {H : Hp} {Q : VK} {p : Addr} {xs : List V} (h : SqL K H p xs) (q : ∀ l, H l = none → Q (.ref l) (upd H l (.tup xs))) : rTupV K [.ref p] H Q := ⟨p, xs, rfl, .inl ⟨h, q⟩⟩
theorem list_l {K : Frag} {H : Hp} {Q : VK} {p : Addr} {xs : List V} (h : SqL K H p xs) (q : ∀ l, H l = none → Q (.ref l) (upd H l (.lst xs))) : rListV K [.ref p] H Q := ⟨p, xs, rfl, .inl h, q⟩
/-! ### objects -/
section
variable {K : Frag} {H : Hp} {Q : VK} {a C dx : Addr} {fs : List (Str × V)} {f m : Str} {v y : V}
theorem fld_ok (h : H a = some (.ins C dx fs)) (cl : Cls K C) (na : NoAttr K C f) (l : fs.lookup f = some v) (q : Q v H) : rFld K f (.ref a) H Q := ⟨a, C, dx, fs, v, rfl, h, cl, na, l, q⟩
theorem sfld_ok {Q : Hp → Prop} (h : H a = some (.ins C dx fs)) (cl : Cls K C) (na : NoAttr K C f) (l : fs.length < 1000) (q : Q (upd H a (.ins C dx (putF f y fs)))) : rSFld K f (.ref a) y H Q := ⟨a, C, dx, fs, rfl, h, cl, na, l, q⟩
theorem inst_ok {P : Prop} (h : H a = some (.ins C dx fs)) (l : fs.lookup m = none) (p : P) : rInst C m (.ref a) H P := ⟨a, dx, fs, rfl, h, l, p⟩
theorem prop_ok {P : Addr → Prop} (h : H a = some (.ins C dx fs)) (p : P a) : rProp C (.ref a) H P := ⟨a, dx, fs, rfl, h, p⟩
end
/-! ### lists, tuples, texts -/
def rLenV (K : Frag) : List V → Hp → VK → Prop := fun xs H Q => ∃ p ys, xs = [.ref p] ∧ (SqL K H p ys ∨ SqT K H p ys) ∧ Q (.int ys.length) H
theorem call_lenV {X : Cx} : CallR X (.builtin "len") (rLenV X.K) := call_len_seq
theorem szI {n : Nat} (h : n ≤ 100000 := by omega) : n ≤ sizeLine := Nat.le_trans h (by decide)
theorem szL {n : Nat} (h : n < 100000 := by omega) : n < sizeLine := Nat.lt_of_lt_of_le h (by decide)
theorem atI_of {α : Type} {xs : List α} {j : Nat} {i : Int} {x : α} (e : i = (j : Int)) (h : xs[j]? = some x) : atI xs i = some x := by
  subst e
  exact atI_nat h
section
variable {K : Frag} {D : Ends} {σ : L2.St} {H H' : Hp} {Q : VK} {p : Addr}
theorem ixT_i {bs : List Int} {i : Int} (j : Nat) (h : SqT K H p (bs.map V.int)) (e : i = (j : Int)) (hj : j < bs.length) (q : Q (.int (bs.getD j 0)) H) : rIxT K (.ref p) (.int i) H Q :=
  ⟨p, _, i, _, rfl, rfl, h, atI_of e (by rw [List.getElem?_map, List.getElem?_eq_getElem hj]; rfl), by rw [List.getD_eq_getElem?_getD, List.getElem?_eq_getElem hj] at q; exact q⟩
theorem ixL_i {bs : List Int} {i : Int} (j : Nat) (h : SqL K H p (bs.map V.int)) (e : i = (j : Int)) (hj : j < bs.length) (q : Q (.int (bs.getD j 0)) H) : rIxL K (.ref p) (.int i) H Q :=
  ⟨p, _, i, _, rfl, rfl, h, atI_of e (by rw [List.getElem?_map, List.getElem?_eq_getElem hj]; rfl), by rw [List.getD_eq_getElem?_getD, List.getElem?_eq_getElem hj] at q; exact q⟩
theorem ixL_v {xs : List V} {i : Int} {v : V} (j : Nat) (h : SqL K H p xs) (e : i = (j : Int)) (hj : xs[j]? = some v) (q : Q v H) : rIxL K (.ref p) (.int i) H Q :=
  ⟨p, _, i, _, rfl, rfl, h, atI_of e hj, q⟩
theorem ixT_v {xs : List V} {i : Int} {v : V} (j : Nat) (h : SqT K H p xs) (e : i = (j : Int)) (hj : xs[j]? = some v) (q : Q v H) : rIxT K (.ref p) (.int i) H Q :=
  ⟨p, _, i, _, rfl, rfl, h, atI_of e hj, q⟩
theorem app_ok {xs : List V} {v : V} (h : H p = some (.lst xs)) (hz : xs.length < 100000) (q : Q .non (upd H p (.lst (xs ++ [v])))) : rAppend (.ref p) [v] H Q := ⟨p, xs, v, rfl, rfl, h, szL hz, q⟩
theorem tyL {xs : List V} (h : H p = some (.lst xs)) : tyV K "list" (.ref p) H := Or.inl ⟨rfl, _, Or.inl (Or.inl h)⟩
theorem len_l {vs : List V} {n : Int} (h : SqL K H p vs) (e : n = (vs.length : Int)) (q : Q (.int n) H) : rLenV K [.ref p] H Q := ⟨p, vs, rfl, .inl h, by rw [← e]; exact q⟩
theorem len_t {vs : List V} {n : Int} (h : SqT K H p vs) (e : n = (vs.length : Int)) (q : Q (.int n) H) : rLenV K [.ref p] H Q := ⟨p, vs, rfl, .inr h, by rw [← e]; exact q⟩
end
/-! ### loops -/
def Loop (J : It) (g : TG) (tb : TS) (D : Ends) (σ : L2.St) (H : Hp) : Prop := ∃ W : Nat → Nat → L2.St → Hp → Prop, (∃ m, W 0 m σ H) ∧ ∀ i m σ H, W i m σ H →
  (J.stop i H ∧ D.nx σ H) ∨ (J.go i H ∧ ∃ N : L2.St → Hp → Prop, (∀ σ' H', N σ' H' → ∃ m', m' < m ∧ W (i + 1) m' σ' H') ∧ ∀ x H', J.yld i H x H' → g x σ H' fun σ2 H2 => tb { D with nx := N, ct := N, bk := D.nx } σ2 H2)
def LoopC (J : It) (g : TG) (tt : TT) (te : TE) (vs : List Nat) (D : Addr) (σ : L2.St) (H1 : Hp) (Q : VK) : Prop := ∃ W : Nat → Nat → Hp → Prop, (∃ m, W 0 m (upd H1 D (.lst []))) ∧ ∀ i m H, W i m H →
  (J.stop i H ∧ Q (.ref D) H) ∨ (J.go i H ∧ ∃ Nx : Hp → Prop, (∀ H', Nx H' → ∃ m', m' < m ∧ W (i + 1) m' H') ∧ ∀ x H', J.yld i H x H' → g x (wipe σ vs) H' fun σ2 H2 => wipe σ2 vs = wipe σ vs ∧ tt σ2 H2 fun b H3 =>
    if b = true then te σ2 H3 fun y H4 => ∃ acc, H4 D = some (.lst acc) ∧ acc.length < sizeLine ∧ Nx (upd H4 D (.lst (acc ++ [y]))) else Nx H3)
section
variable {K : Frag} {D : Ends} {σ : L2.St} {H : Hp} {ta : TA} {te tl : TE} {tb : TS} {g : TG} {wi : TI} {tt : TT} {J : It} {n : Nat} {G : Hp → Prop} {Y : Nat → Hp → V → Hp → Prop} {Q : VK} {R : It → Hp → Prop} {vs : List Nat} {Dl : Addr}
theorem ap_for : tFor wi g tb D σ H = wi σ H fun J H1 => Loop J g tb D σ H1 := rfl
theorem ap_lc : tLc wi g tt te vs σ H Q = wi σ H fun J H1 => ∀ D, H1 D = none → LoopC J g tt te vs D σ H1 Q := rfl
theorem ap_rng1 : iRng1 ta σ H R = ta σ H fun vs H1 => ∃ j : Int, vs = [.int j] ∧ -(2 ^ 62) ≤ j ∧ j < 2 ^ 62 ∧ R (Itr 0 j.toNat) H1 := rfl
theorem ap_rng2 : iRng2 ta σ H R = ta σ H fun vs H1 => ∃ i j : Int, vs = [.int i, .int j] ∧ (-(2 ^ 62) ≤ i ∧ i < 2 ^ 62 ∧ -(2 ^ 62) ≤ j ∧ j < 2 ^ 62) ∧ R (Itr i (j - i).toNat) H1 := rfl
theorem ap_list : iList K tl σ H R = tl σ H fun x H1 => ∃ a, x = .ref a ∧ (∃ xs, SqL K H1 a xs) ∧ R (Itl K a) H1 := rfl
theorem ap_itup : iTup K tl σ H R = tl σ H fun x H1 => ∃ a, x = .ref a ∧ (∃ xs, SqT K H1 a xs) ∧ R (Itt K a) H1 := rfl
theorem ap_str : iStr tl σ H R = tl σ H fun v H1 => ∃ x, v = .str x ∧ R (Its x) H1 := rfl
theorem ap_enum : iEnum K ta σ H R = ta σ H fun vs H1 => ∃ a xs, vs = [.ref a] ∧ SqL K H1 a xs ∧ R (Ite K a) H1 := rfl
theorem ap_zip : iZip K ta σ H R = ta σ H fun vs H1 => ∃ a b xs ys, vs = [.ref a, .ref b] ∧ SqL K H1 a xs ∧ SqL K H1 b ys ∧ R (Itz K a b) H1 := rfl
theorem lp_it (w : Walk J n G Y) (Pv : Nat → L2.St → Hp → Prop) (h0 : Pv 0 σ H) (hG : ∀ i σ H, i ≤ n → Pv i σ H → G H)
    (hs : ∀ i x σ H H', i < n → Pv i σ H → Y i H x H' → g x σ H' fun σ2 H2 => tb { D with nx := Pv (i + 1), ct := Pv (i + 1), bk := D.nx } σ2 H2) (hd : ∀ σ H, Pv n σ H → D.nx σ H) : Loop J g tb D σ H := for_it w Pv h0 hG hs hd
theorem lp_rng {lo : Int} (Pv : Nat → L2.St → Hp → Prop) (h0 : Pv 0 σ H)
    (hs : ∀ i σ H, i < n → Pv i σ H → g (.int (lo + (i : Int))) σ H fun σ2 H2 => tb { D with nx := Pv (i + 1), ct := Pv (i + 1), bk := D.nx } σ2 H2) (hd : ∀ σ H, Pv n σ H → D.nx σ H) : Loop (Itr lo n) g tb D σ H := for_range (lo := lo) Pv h0 hs hd
theorem lp_list {a : Addr} {xs : List V} (Pv : Nat → L2.St → Hp → Prop) (h0 : Pv 0 σ H) (hG : ∀ i σ H, i ≤ xs.length → Pv i σ H → SqL K H a xs)
    (hs : ∀ i x σ H, i < xs.length → xs[i]? = some x → Pv i σ H → g x σ H fun σ2 H2 => tb { D with nx := Pv (i + 1), ct := Pv (i + 1), bk := D.nx } σ2 H2) (hd : ∀ σ H, Pv xs.length σ H → D.nx σ H) : Loop (Itl K a) g tb D σ H :=
  lp_it walk_list Pv h0 hG (fun i x σ H H' hi p y => by obtain ⟨rfl, y⟩ := y; exact hs i x σ H' hi y p) hd
theorem lp_tup {a : Addr} {xs : List V} (Pv : Nat → L2.St → Hp → Prop) (h0 : Pv 0 σ H) (hG : ∀ i σ H, i ≤ xs.length → Pv i σ H → SqT K H a xs)
    (hs : ∀ i x σ H, i < xs.length → xs[i]? = some x → Pv i σ H → g x σ H fun σ2 H2 => tb { D with nx := Pv (i + 1), ct := Pv (i + 1), bk := D.nx } σ2 H2) (hd : ∀ σ H, Pv xs.length σ H → D.nx σ H) : Loop (Itt K a) g tb D σ H :=
  lp_it walk_tup Pv h0 hG (fun i x σ H H' hi p y => by obtain ⟨rfl, y⟩ := y; exact hs i x σ H' hi y p) hd
theorem lc_ok (w : Walk J n G Y) (Pv : Nat → Hp → Prop) (h0 : Pv 0 (upd H Dl (.lst []))) (hG : ∀ i H, i ≤ n → Pv i H → G H)
    (hs : ∀ i x H H', i < n → Pv i H → Y i H x H' → g x (wipe σ vs) H' fun σ2 H2 => wipe σ2 vs = wipe σ vs ∧ tt σ2 H2 fun b H3 =>
      if b = true then te σ2 H3 fun y H4 => ∃ acc, H4 Dl = some (.lst acc) ∧ acc.length < sizeLine ∧ Pv (i + 1) (upd H4 Dl (.lst (acc ++ [y]))) else Pv (i + 1) H3) (hd : ∀ H, Pv n H → Q (.ref Dl) H) : LoopC J g tt te vs Dl σ H Q := lc_it w Pv h0 hG hs hd
end
/-- a range's fold -/
def rf {S : Type} (n : Nat) (f : S → Nat → S) (s : S) : S := (List.range n).foldl f s
theorem rf_succ {S : Type} {n : Nat} {f : S → Nat → S} {s : S} : rf (n + 1) f s = f (rf n f s) n := by simp [rf, List.range_succ]
theorem rf_zero {S : Type} {f : S → Nat → S} {s : S} : rf 0 f s = s := rfl
end DR

set_option Elab.async false
set_option linter.all false
set_option maxRecDepth 100000
set_option maxHeartbeats 4000000
/-! the mirrors (plain functions) and what stands in the heap -/
namespace DR
open PySem PySem.Spec PyProof.Rows L2
open PySem.W (Frag)
/-! ### plain functions -/
def mapr {α : Type} (n : Nat) (F : Nat → α) : List α := (List.range n).map F
theorem mapr_succ {α : Type} {n : Nat} {F : Nat → α} : mapr (n + 1) F = mapr n F ++ [F n] := by simp [mapr, List.range_succ]
theorem mapr_len {α : Type} {n : Nat} {F : Nat → α} : (mapr n F).length = n := by simp [mapr]
theorem mapr_get {α : Type} {n i : Nat} {F : Nat → α} {d : α} (h : i < n) : (mapr n F).getD i d = F i := by simp [mapr, h]
theorem mapr_map {α β : Type} {n : Nat} {F : Nat → α} {g : α → β} : (mapr n F).map g = mapr n fun i => g (F i) := by simp [mapr]
def countIn (bs : List Int) (b e : Nat) : Int := rf (e - b) (fun n i => if bs.getD (b + i) 0 < (b : Int) then n + 1 else n) 0
def rowStep (b : List Int) (g : Nat) (row : List Int) (i : Nat) : List Int := if b.getD (g + i) 0 < (g : Int) then row ++ [row.getLastD 0 + 1] else row ++ [row.getLastD 0]
def rowOf (b : List Int) (g : Nat) : List Int := rf (b.length - g) (rowStep b g) [0]
def countRows (b : List Int) : List (List Int) := mapr (b.length + 1) (rowOf b)
def at2 (rows : List (List Int)) (i j : Nat) : Int := (rows.getD i []).getD j 0
def borNear (rows : List (List Int)) (e : Nat) : Int := rf (e + 1) (fun n b => if at2 rows b (e + 1 - b) = at2 rows b (e - b) then (b : Int) else n) (-1)
def beforeOfRows (rows : List (List Int)) : List Int := mapr (rows.length - 1) (borNear rows)
def botNear (t : List Nat) (g : Nat) : Int := rf (g + 1) (fun n e => if t.getD e 0 = t.getD (g + 1) 0 then (e : Int) else n) (-1)
def beforeOfText (t : List Nat) : List Int := mapr (t.length - 1) (botNear t)
def tobStep (b : List Int) (s : List Nat × Nat) (i : Nat) : List Nat × Nat := if b.getD i 0 < 0 then (s.1 ++ [97 + s.2], s.2 + 1) else (s.1 ++ [s.1.getD (b.getD i 0).toNat 0], s.2)
def textOfBefore (b : List Int) : List Nat := (rf b.length (tobStep b) ([97], 1)).1
def sbStep (b st : List Int) (s : Int × List Int) (p : Nat) : Int × List Int := if (p : Int) ∈ st ∨ b.getD p 0 < s.1 then (b.getD p 0, s.2 ++ [s.1]) else (s.1, s.2 ++ [b.getD p 0])
def stepBefore (b st : List Int) : List Int := (rf b.length (sbStep b st) (-1, [])).2
def pbBest (r1 r2 : List (List Int)) (g j : Nat) : Int := rf (j + 1) (fun best c => if at2 r1 g c + at2 r2 (g + c) (j - c) > best then at2 r1 g c + at2 r2 (g + c) (j - c) else best) 0
def pbRow (r1 r2 : List (List Int)) (n g : Nat) : List Int := mapr (n - g) (pbBest r1 r2 g)
def productBefore (a b : List Int) : List Int := beforeOfRows (mapr (a.length + 1) (pbRow (countRows a) (countRows b) (a.length + 1)))
/-! ### texts -/
def tx (l : List Nat) : Str := ⟨l.toArray⟩
theorem tx_app (a b : List Nat) : tx a ++ tx b = tx (a ++ b) := by
  show Str.append (tx a) (tx b) = _
  simp [Str.append, tx]
theorem lit_nil : (Str.ofString "" : Str) = tx [] := by decide +kernel
theorem lit_abcdef : (Str.ofString "abcdef" : Str) = tx [97, 98, 99, 100, 101, 102] := by decide +kernel
theorem lit_a : (Str.ofString "a" : Str) = tx [97] := by decide +kernel
theorem tx_len (a : List Nat) : (tx a).length = a.length := by simp [Str.length, tx]
theorem tx_inj {a b : List Nat} : tx a = tx b ↔ a = b := by simp [tx]
theorem tx_toList (a : List Nat) : (tx a).cps.toList = a := by simp [tx]
theorem one_tx (c : Nat) : (⟨#[c]⟩ : Str) = tx [c] := rfl
def rInSg : R2 := fun x y H Q => ∃ (c : Nat) (z : Str), x = .str ⟨#[c]⟩ ∧ y = .str z ∧ Q (.bl (decide (c ∈ z.cps.toList))) H
def rNinSg : R2 := fun x y H Q => ∃ (c : Nat) (z : Str), x = .str ⟨#[c]⟩ ∧ y = .str z ∧ Q (.bl (!decide (c ∈ z.cps.toList))) H
def rAddS : R2 := fun x y H Q => ∃ i j, x = .str i ∧ y = .str j ∧ i.length + j.length ≤ sizeLine ∧ Q (.str (i ++ j)) H
theorem op_inSg {X : Cx} : OpR X (compareOp .In) rInSg := op_in_sign
theorem op_ninSg {X : Cx} : OpR X (compareOp .NotIn) rNinSg := op_notIn_sign
theorem op_addS {X : Cx} : OpR X (binaryOp .Add) rAddS := op_add_str
theorem ap_inSg {c : Nat} {t : List Nat} {H : Hp} {Q : VK} : rInSg (.str (tx [c])) (.str (tx t)) H Q = Q (.bl (decide (c ∈ t))) H := by
  refine propext ⟨?_, fun q => ⟨c, tx t, rfl, rfl, by rw [tx_toList]; exact q⟩⟩
  rintro ⟨c', z, e1, e2, q⟩
  cases e2
  have e : tx [c] = tx [c'] := V.str.inj e1
  rw [tx_inj] at e
  cases e
  rw [tx_toList] at q
  exact q
theorem ap_ninSg {c : Nat} {t : List Nat} {H : Hp} {Q : VK} : rNinSg (.str (tx [c])) (.str (tx t)) H Q = Q (.bl (!decide (c ∈ t))) H := by
  refine propext ⟨?_, fun q => ⟨c, tx t, rfl, rfl, by rw [tx_toList]; exact q⟩⟩
  rintro ⟨c', z, e1, e2, q⟩
  cases e2
  have e : tx [c] = tx [c'] := V.str.inj e1
  rw [tx_inj] at e
  cases e
  rw [tx_toList] at q
  exact q
theorem ap_addS {a b : List Nat} {H : Hp} {Q : VK} : rAddS (.str (tx a)) (.str (tx b)) H Q = (a.length + b.length ≤ sizeLine ∧ Q (.str (tx (a ++ b))) H) := by
  refine propext ⟨?_, fun ⟨h, q⟩ => ⟨_, _, rfl, rfl, by rw [tx_len, tx_len]; exact h, by rw [tx_app]; exact q⟩⟩
  rintro ⟨_, _, e1, e2, h, q⟩
  cases e1
  cases e2
  rw [tx_len, tx_len] at h
  rw [tx_app] at q
  exact ⟨h, q⟩
theorem slS_ok {t : List Nat} {lo hi : Option Int} {H : Hp} {Q : VK} (hz : t.length ≤ 100000) (q : Q (.str (cutS (tx t) lo hi)) H) : rSlS (.str (tx t)) lo hi H Q := ⟨tx t, rfl, by rw [tx_len]; exact szI hz, q⟩
/-! ### the heap -/
theorem mapref_inj : ∀ {as bs : List Addr}, as.map V.ref = bs.map V.ref → as = bs
  | [], [], _ => rfl
  | [], _ :: _, h => by simp at h
  | _ :: _, [], h => by simp at h
  | a :: as, b :: bs, h => by
    simp only [List.map_cons, List.cons.injEq, V.ref.injEq] at h
    rw [h.1, mapref_inj h.2]
def LL (H : Hp) (p : Addr) (rows : List (List Int)) : Prop := ∃ as : List Addr, H p = some (.lst (as.map V.ref)) ∧ as.length = rows.length ∧ ∀ i, i < rows.length → ∃ a, as[i]? = some a ∧ H a = some (.lst ((rows.getD i []).map V.int))
theorem LL.mono {H H' : Hp} {p : Addr} {rows : List (List Int)} (e : Ex H H') (h : LL H p rows) : LL H' p rows := by
  obtain ⟨as, h1, h2, h3⟩ := h
  refine ⟨as, e _ _ h1, h2, fun i hi => ?_⟩
  obtain ⟨a, ha, hb⟩ := h3 i hi
  exact ⟨a, ha, e _ _ hb⟩
theorem LL.nil {H : Hp} {p : Addr} : LL (upd H p (.lst [])) p [] := ⟨[], upd_same, rfl, fun i hi => absurd hi (Nat.not_lt_zero i)⟩
/-- rows.append(row) -/
theorem LL.push {H : Hp} {p q : Addr} {rows : List (List Int)} {as : List Addr} {r : List Int} (h : LL H p rows) (ha : H p = some (.lst (as.map V.ref))) (hq : H q = some (.lst (r.map V.int))) (hne : q ≠ p) : LL (upd H p (.lst (as.map V.ref ++ [.ref q]))) p (rows ++ [r]) := by
  obtain ⟨bs, h1, h2, h3⟩ := h
  rw [ha] at h1
  have e : as = bs := by
    have := Option.some.inj h1
    simp only [HO.lst.injEq] at this
    exact mapref_inj this
  subst e
  refine ⟨as ++ [q], by rw [upd_same]; simp, by simp [h2], fun i hi => ?_⟩
  rw [List.length_append, List.length_singleton] at hi
  by_cases hlt : i < rows.length
  · obtain ⟨a, e1, e2⟩ := h3 i hlt
    refine ⟨a, by rw [List.getElem?_append_left (by omega)]; exact e1, ?_⟩
    have hap : a ≠ p := by
      rintro rfl
      rw [ha] at e2
      have := Option.some.inj e2
      simp only [HO.lst.injEq] at this
      cases as with
      | nil => cases e1
      | cons b bs =>
        cases hr : rows.getD i [] with
        | nil => rw [hr] at this; cases this
        | cons x xs => rw [hr] at this; simp at this
    rw [upd_ne hap, e2]
    simp [List.getElem?_append_left hlt]
  · have : i = rows.length := by omega
    subst this
    refine ⟨q, by rw [← h2]; simp, ?_⟩
    rw [upd_ne hne, hq]
    simp
theorem LL.seq {K : Frag} {H : Hp} {p : Addr} {rows : List (List Int)} (h : LL H p rows) : ∃ vs, SqL K H p vs ∧ vs.length = rows.length ∧ ∀ i, i < rows.length → ∃ a, vs[i]? = some (.ref a) ∧ SqL K H a ((rows.getD i []).map V.int) := by
  obtain ⟨as, h1, h2, h3⟩ := h
  refine ⟨_, Evl.sq_of h1, by simpa using h2, fun i hi => ?_⟩
  obtain ⟨a, e1, e2⟩ := h3 i hi
  exact ⟨a, by rw [List.getElem?_map, e1]; rfl, Evl.sq_of e2⟩
section
variable {K : Frag} {D : Ends} {σ : L2.St} {H H' : Hp} {Q : VK} {p : Addr}
/-- rows[i] .. -/
theorem ixL_row {rows : List (List Int)} {i : Int} (j : Nat) (h : LL H p rows) (e : i = (j : Int)) (hj : j < rows.length) (q : ∀ a, SqL K H a ((rows.getD j []).map V.int) → Q (.ref a) H) : rIxL K (.ref p) (.int i) H Q := by
  obtain ⟨vs, h1, h2, h3⟩ := h.seq (K := K)
  obtain ⟨a, e1, e2⟩ := h3 j hj
  exact ixL_v j h1 e e1 (q a e2)
theorem ixS_t {t : List Nat} {i : Int} (j : Nat) (e : i = (j : Int)) (hj : j < t.length) (hz : t.length ≤ 100000 := by omega) (q : Q (.str (tx [t.getD j 0])) H) : rIxS (.str (tx t)) (.int i) H Q := by
  refine ⟨tx t, i, t.getD j 0, rfl, rfl, by rw [tx_len]; exact szI hz, atI_of e ?_, q⟩
  rw [tx_toList, List.getD_eq_getElem?_getD, List.getElem?_eq_getElem hj] <;> rfl
theorem ix_abc {i : Int} (j : Nat) (e : i = (j : Int)) (hj : j < 6) (q : Q (.str (tx [97 + j])) H) : rIxS (.str (Str.ofString "abcdef")) (.int i) H Q := by
  rw [lit_abcdef]
  refine ixS_t j e (by simpa using hj) (by simp) ?_
  have : ([97, 98, 99, 100, 101, 102] : List Nat).getD j 0 = 97 + j := by
    match j, hj with
    | 0, _ => rfl
    | 1, _ => rfl
    | 2, _ => rfl
    | 3, _ => rfl
    | 4, _ => rfl
    | 5, _ => rfl
  rw [this]
  exact q
theorem inV_int {x : Int} {xs : List Int} : inV (.int x) (xs.map V.int) = decide (x ∈ xs) := by
  unfold inV
  rw [List.any_map]
  induction xs with
  | nil => rfl
  | cons a r ih =>
    rw [List.any_cons, ih]
    show ((a == x) || decide (x ∈ r)) = decide (x ∈ a :: r)
    by_cases h : x = a
    · subst h; simp
    · have h' : ¬ a = x := fun e => h e.symm
      simp [h, h']
theorem flat_int {xs : List Int} : (xs.map V.int).all flatV = true := by simp [flatV]
theorem in_int {x : Int} {xs : List Int} {neg : Bool} (h : SqL K H p (xs.map V.int)) (q : Q (.bl (if neg then !decide (x ∈ xs) else decide (x ∈ xs))) H) : rIn K neg (.int x) (.ref p) H Q :=
  ⟨p, _, rfl, .inl h, rfl, flat_int, by rw [inV_int]; exact q⟩
/-- t[g:], a tuple of ints: the same or a new one -/
theorem slA_i {bs : List Int} {i : Int} (g : Nat) (h : SqT K H p (bs.map V.int)) (e : i = (g : Int)) (hg : g ≤ bs.length) (q : ∀ p' H', Ex H H' → SqT K H' p' ((bs.drop g).map V.int) → Q (.ref p') H') : rSlA K (.ref p) (some i) none H Q := by
  subst e
  have e1 : HT.sIx (bs.map V.int).length 0 (some (g : Int)) = g := by rw [HT.sIx_nat, List.length_map]; omega
  have e2 : HT.sIx (bs.map V.int).length (bs.map V.int).length none = (bs.map V.int).length := HT.sIx_none _ _
  refine ⟨p, _, rfl, h, fun hw => ?_, fun _ p' hp' => ?_⟩
  · rw [e1] at hw
    refine q p H (Evl.Ex.refl H) ?_
    rw [hw.1]
    exact h
  · refine q p' _ (Evl.Ex.new hp') ?_
    have : cutV (bs.map V.int) (some (g : Int)) none = (bs.drop g).map V.int := by
      unfold cutV
      rw [e1, e2, ← List.map_drop, List.take_of_length_le]
      simp
    rw [this]
    exact Evl.st_of upd_same
/-- xs[-1] -/
theorem ixL_last {xs : List Int} (h : SqL K H p (xs.map V.int)) (hx : xs ≠ []) (q : Q (.int (xs.getLastD 0)) H) : rIxL K (.ref p) (.int (-1)) H Q := by
  obtain ⟨ys, y, rfl⟩ : ∃ ys y, xs = ys ++ [y] := ⟨xs.dropLast, xs.getLast hx, (List.dropLast_concat_getLast hx).symm⟩
  refine ⟨p, _, -1, .int y, rfl, rfl, h, ?_, by simpa using q⟩
  rw [List.map_append]
  exact atI_last _ _
/-- a list changes, a tuple stays -/
theorem SqT_mut {q : Addr} {xs : List V} {o : HO} {ts : List V} (hq : H q = some (.lst xs)) (h : SqT K H p ts) : SqT K (upd H q o) p ts := by
  rcases h with (h | ⟨u, h⟩) | h
  · exact .inl (.inl (by rw [upd_ne (fun e => by rw [e, hq] at h; cases h)]; exact h))
  · exact .inl (.inr ⟨u, by rw [upd_ne (fun e => by rw [e, hq] at h; cases h)]; exact h⟩)
  · exact .inr h
theorem SqL_mut {q : Addr} {o : HO} {ts : List V} (hne : p ≠ q) (h : SqL K H p ts) : SqL K (upd H q o) p ts := by
  rcases h with (h | ⟨u, h⟩) | h
  · exact .inl (.inl (by rw [upd_ne hne]; exact h))
  · exact .inl (.inr ⟨u, by rw [upd_ne hne]; exact h⟩)
  · exact .inr h
end
theorem rowStep_ne (bs : List Int) (g i : Nat) (r : List Int) : rowStep bs g r i ≠ [] := by unfold rowStep; split <;> simp
theorem rowStep_len (bs : List Int) (g i : Nat) (r : List Int) : (rowStep bs g r i).length = r.length + 1 := by unfold rowStep; split <;> simp
theorem rowOf_ne (bs : List Int) (g i : Nat) : rf i (rowStep bs g) [0] ≠ [] := by
  cases i with
  | zero => simp [rf_zero]
  | succ n => rw [rf_succ]; exact rowStep_ne _ _ _ _
theorem rowOf_len (bs : List Int) (g i : Nat) : (rf i (rowStep bs g) [0]).length = i + 1 := by
  induction i with
  | zero => rfl
  | succ n ih => rw [rf_succ, rowStep_len, ih]
end DR

set_option Elab.async false
set_option linter.all false
set_option maxRecDepth 100000
set_option maxHeartbeats 4000000
/-! more mirrors, more rules -/
namespace DR
open PySem PySem.Spec PyProof.Rows L2
open PySem.W (Frag)
/-! ### text * int -/
def rMulS : R2 := fun x y H Q => ∃ (a : List Nat) (k : Nat), x = .str (tx a) ∧ y = .int (k : Int) ∧ k ≤ 1000 ∧ a.length ≤ 1000 ∧ Q (.str (tx (List.replicate k a).flatten)) H
theorem foldl_tx (a : List Nat) : ∀ (n : Nat) (acc : List Nat), (List.replicate n a.toArray).foldl (fun x1 x2 => x1 ++ x2) acc.toArray = (acc ++ (List.replicate n a).flatten).toArray
  | 0, acc => by simp
  | n + 1, acc => by
    rw [List.replicate_succ, List.foldl_cons, List.replicate_succ, List.flatten_cons]
    have := foldl_tx a n (acc ++ a)
    simp only [List.append_assoc, List.append_toArray] at this ⊢
    exact this
theorem op_mul_str {X : Cx} : OpR X (binaryOp .Mult) rMulS := by
  intro pins s σ H x y v u Q I rx ry h
  obtain ⟨a, k, rfl, rfl, hk, ha, q⟩ := h
  obtain ⟨t, rfl⟩ := rx
  obtain ⟨t', rfl⟩ := ry
  have hla : (tx a).length = a.length := tx_len a
  have hmul : a.length * k ≤ 1000000 := Nat.le_trans (Nat.mul_le_mul ha hk) (by decide)
  refine PySem.P.mul_str ?_ ?_ ?_ ?_
  · simp only [Bool.or_eq_false_iff, decide_eq_false_iff_not]
    omega
  · intro h1 _ h3
    have h4 : (k : Int) * ((2 ^ 63 - 1) / k) ≤ 2 ^ 63 - 1 := Int.mul_ediv_self_le (by omega)
    have h5 : ((2 : Int) ^ 63 - 1) / k ≥ (2 ^ 63 - 1) / 1000 := by
      refine (Int.le_ediv_iff_mul_le (by omega)).mpr ?_
      have : ((2 : Int) ^ 63 - 1) / 1000 * k ≤ (2 ^ 63 - 1) / 1000 * 1000 := Int.mul_le_mul_of_nonneg_left (by omega) (by decide)
      have : ((2 : Int) ^ 63 - 1) / 1000 * 1000 ≤ 2 ^ 63 - 1 := by decide
      omega
    have h6 : ((2 : Int) ^ 63 - 1) / 1000 ≥ 1001 := by decide
    rw [hla] at h3
    omega
  · intro _ _
    show decide (_ > sizeLine) = false
    rw [hla, Int.toNat_natCast]
    have : (1000000 : Nat) ≤ sizeLine := by decide
    exact decide_eq_false (by omega)
  · by_cases h1 : (k : Int) < 1
    · rw [if_pos h1]
      have : k = 0 := by omega
      subst this
      exact ⟨by decide, .str (tx []), H, I.tok _, ⟨_, rfl⟩, by simpa using q⟩
    · rw [if_neg h1]
      by_cases h2 : ((k : Int) == 1 || (tx a).length == 0) = true
      · rw [if_pos h2]
        refine ⟨.str (tx a), H, I, ⟨_, rfl⟩, ?_⟩
        have : (List.replicate k a).flatten = a := by
          rw [hla] at h2
          simp only [Bool.or_eq_true, beq_iff_eq] at h2
          rcases h2 with h2 | h2
          · have : k = 1 := by omega
            subst this
            simp
          · have : a = [] := List.eq_nil_of_length_eq_zero h2
            subst this
            simp
        rw [this] at q
        exact q
      · rw [if_neg h2]
        have e : (List.replicate (k : Int).toNat (tx a).cps).foldl (fun x1 x2 => x1 ++ x2) #[] = ((List.replicate k a).flatten).toArray := by
          have := foldl_tx a k []
          simpa [tx] using this
        rw [e]
        refine ⟨?_, .str (tx (List.replicate k a).flatten), H, I.tok _, ⟨_, rfl⟩, q⟩
        have : (List.replicate k a).flatten.length = k * a.length := by simp
        have hs : (1000000 : Nat) ≤ sizeLine := by decide
        have h3 : k * a.length ≤ 1000000 := by rw [Nat.mul_comm]; exact hmul
        show (tx (List.replicate k a).flatten).length ≤ sizeLine
        rw [tx_len, this]
        omega
/-! ### the law's mirrors -/
def cutN (t : List Nat) (lo hi : Nat) : List Nat := (t.drop lo).take (hi + 1 - lo)
def colours (t : List Nat) (lo hi : Nat) : Int := (((List.range (cutN t lo hi).length).filter fun k => decide (¬ (cutN t lo hi).getD k 0 ∈ (cutN t lo hi).take k)).length : Int) - 1
def lctLetter (rows : List (List Int)) (t : List Nat) (g : Nat) : List Nat := rf g (fun l o => if at2 rows o (g - o) = at2 rows o (g - o - 1) then [t.getD o 0] else l) []
def lctStep (rows : List (List Int)) (s : List Nat × Nat) (g : Nat) : List Nat × Nat := if lctLetter rows s.1 g = [] then (s.1 ++ [97 + s.2], s.2 + 1) else (s.1 ++ lctLetter rows s.1 g, s.2)
def lawCoatText (rows : List (List Int)) : List Nat := (rf rows.length (lctStep rows) ([], 0)).1
def imax (i j : Int) : Int := if j > i then j else i
/-- the j-th turn downwards: k = n - j -/
def lcDown (P : Nat) (sets : List (List Int)) (x : Int) (best : List Int) (j : Nat) : List Int :=
  if x % (P : Int) ∈ sets.getD (sets.length - j - 1) [] then best.set (sets.length - j) (imax (best.getD (sets.length - j) 0) (best.getD (sets.length - j - 1) 0 + 1)) else best
def lcUp (best : List Int) (j : Nat) : List Int := best.set (j + 1) (imax (best.getD (j + 1) 0) (best.getD j 0))
def lcX (P : Nat) (sets : List (List Int)) (x : Int) (best : List Int) : List Int := rf sets.length lcUp (rf sets.length (lcDown P sets x) best)
def lcStep (P : Nat) (sets : List (List Int)) (b : Int) (s : List Int × List Int) (i : Nat) : List Int × List Int := (lcX P sets (b + i) s.1, s.2 ++ [(lcX P sets (b + i) s.1).getD sets.length 0])
def bestZ (n : Nat) : List Int := List.replicate (n + 1) 0
def lawCounts (P : Nat) (sets : List (List Int)) (b : Int) (n : Nat) : List Int := (rf n (lcStep P sets b) (bestZ sets.length, [0])).2
def lawPageCoat (P : Nat) (sets : List (List Int)) (low : Int) (n : Nat) : List Nat := lawCoatText (mapr (n + 1) fun g => lawCounts P sets (low + g) (n - g))
def lcpBest (f s : List Nat) (lo j : Nat) : Int := rf (j + 1) (fun best c => imax best (colours f lo (lo + c) + colours s (lo + c) (lo + j))) 0
def lawCoatProduct (f s : List Nat) : List Nat := lawCoatText (mapr f.length fun lo => mapr (f.length - lo) (lcpBest f s lo))
def clStep (at_ : Nat) (found : List (List Nat)) (coat : List Nat) : List (List Nat) :=
  if at_ < found.length then (if lawCoatProduct (found.getD at_ []) coat ∈ found then found else found ++ [lawCoatProduct (found.getD at_ []) coat]) else found
def plainT (n : Nat) : List Nat := List.replicate (n + 1) 97
def lawClosure (coats : List (List Nat)) (n : Nat) : List (List Nat) := rf 16 (fun found at_ => coats.foldl (clStep at_) found) [plainT n]
theorem lcX_len (P : Nat) (sets : List (List Int)) (x : Int) (best : List Int) : (lcX P sets x best).length = best.length := by
  have h1 : ∀ n, (rf n (lcDown P sets x) best).length = best.length := by
    intro n
    induction n with
    | zero => rfl
    | succ n ih =>
      rw [rf_succ]
      unfold lcDown
      split
      · rw [List.length_set]; exact ih
      · exact ih
  have h2 : ∀ (b : List Int) n, (rf n lcUp b).length = b.length := by
    intro b n
    induction n with
    | zero => rfl
    | succ n ih => rw [rf_succ]; unfold lcUp; rw [List.length_set]; exact ih
  unfold lcX
  rw [h2, h1]
theorem countRows_len (b : List Int) : (countRows b).length = b.length + 1 := mapr_len
theorem countRows_row (b : List Int) (g : Nat) (h : g ≤ b.length) : ((countRows b).getD g []).length = b.length - g + 1 := by
  unfold countRows
  rw [mapr_get (by omega)]
  exact rowOf_len _ _ _
/-! ### slices of texts, comprehensions of flat values -/
theorem cutS_tx (t : List Nat) (lo hi : Nat) : cutS (tx t) (some (lo : Int)) (some ((hi : Int) + 1)) = tx (cutN t lo hi) := by
  unfold cutS cutN
  rw [tx_len, show ((hi : Int) + 1) = ((hi + 1 : Nat) : Int) by omega, HT.sIx_nat, HT.sIx_nat, tx_toList]
  show tx _ = tx _
  rw [tx_inj]
  by_cases h : lo ≤ t.length
  · rw [Nat.min_eq_left h]
    by_cases h2 : hi + 1 ≤ t.length
    · rw [Nat.min_eq_left h2]
    · rw [Nat.min_eq_right (by omega), List.take_of_length_le (by simp), List.take_of_length_le (by simp; omega)]
  · rw [show min lo t.length = t.length from Nat.min_eq_right (by omega), List.drop_eq_nil_of_le (Nat.le_refl _), List.drop_eq_nil_of_le (by omega)]
    simp
theorem cutS_take (t : List Nat) (k : Nat) : cutS (tx t) none (some (k : Int)) = tx (t.take k) := by
  unfold cutS
  rw [tx_len, HT.sIx_nat, HT.sIx_none, tx_toList]
  show tx _ = tx _
  rw [tx_inj]
  simp
theorem cutS_take2 (t : List Nat) (i : Int) (k : Nat) (e : i = (k : Int)) : cutS (tx t) none (some i) = tx (t.take k) := by subst e; exact cutS_take t k
section
variable {K : Frag} {σ : L2.St} {H : Hp} {te : TE} {tt : TT} {J : It} {n j : Nat} {G : Hp → Prop} {Y : Nat → Hp → V → Hp → Prop} {Q : VK} {vs : List Nat} {Dl : Addr}
theorem lc_flat (w : Walk J n G Y) (item : Nat → V) (f : Nat → Bool) (v : Nat → V) (hY : ∀ i H x H', i < n → Y i H x H' → H' = H ∧ x = item i) (hG : ∀ H', Ex H H' → G H') (hn : n ≤ 50000) (hD : H Dl = none)
    (hw : ∀ x, wipe ((wipe σ vs).set j (some x)) vs = wipe σ vs)
    (ht : ∀ i H', i < n → Ex H H' → ∀ Q : Bool → Hp → Prop, (∀ H3, Ex H' H3 → Q (f i) H3) → tt ((wipe σ vs).set j (some (item i))) H' Q)
    (he : ∀ i H', i < n → f i = true → Ex H H' → ∀ Q : VK, (∀ H3, Ex H' H3 → Q (v i) H3) → te ((wipe σ vs).set j (some (item i))) H' Q)
    (k : ∀ H', Ex H H' → H' Dl = some (.lst (Evl.given n f v)) → Q (.ref Dl) H') : LoopC J (gName j) tt te vs Dl σ H Q := by
  refine lc_ok w (fun i H' => Ex H H' ∧ H' Dl = some (.lst (Evl.given i f v))) ⟨Evl.Ex.new hD, by rw [upd_same]; rfl⟩ (fun i H' _ h => hG H' h.1) ?_ (fun H' h => k H' h.1 h.2)
  rintro i x H1 H' hi ⟨h1, h2⟩ y
  obtain ⟨rfl, rfl⟩ := hY i H1 x H' hi y
  refine ⟨hw _, ht i H' hi h1 _ fun H3 e3 => ?_⟩
  cases hf : f i with
  | true =>
    rw [if_pos rfl]
    refine he i H3 hi hf (h1.trans e3) _ fun H4 e4 => ⟨_, (e3.trans e4) _ _ h2, ?_, (h1.trans (e3.trans e4)).mut hD, ?_⟩
    · have := Evl.given_len i f v
      exact szL
    · rw [upd_same, Evl.given_yes hf]
  | false =>
    rw [if_neg Bool.false_ne_true]
    refine ⟨h1.trans e3, ?_⟩
    rw [Evl.given_no hf]
    exact e3 _ _ h2
theorem lc_rngF {lo : Int} (f : Nat → Bool) (v : Nat → V) (hn : n ≤ 50000) (hD : H Dl = none) (hw : ∀ x, wipe ((wipe σ vs).set j (some x)) vs = wipe σ vs)
    (ht : ∀ i H', i < n → Ex H H' → ∀ Q : Bool → Hp → Prop, (∀ H3, Ex H' H3 → Q (f i) H3) → tt ((wipe σ vs).set j (some (.int (lo + (i : Int))))) H' Q)
    (he : ∀ i H', i < n → f i = true → Ex H H' → ∀ Q : VK, (∀ H3, Ex H' H3 → Q (v i) H3) → te ((wipe σ vs).set j (some (.int (lo + (i : Int))))) H' Q)
    (k : ∀ H', Ex H H' → H' Dl = some (.lst (Evl.given n f v)) → Q (.ref Dl) H') : LoopC (Itr lo n) (gName j) tt te vs Dl σ H Q :=
  lc_flat walk_range (fun i => .int (lo + (i : Int))) f v (fun i H x H' hi y => y) (fun _ _ => trivial) hn hD hw ht he k
theorem lc_listF {a : Addr} {xs : List V} (hx : SqL K H a xs) (f : Nat → Bool) (v : Nat → V) (hn : xs.length ≤ 50000) (hD : H Dl = none) (hw : ∀ x, wipe ((wipe σ vs).set j (some x)) vs = wipe σ vs)
    (ht : ∀ i H', i < xs.length → Ex H H' → ∀ Q : Bool → Hp → Prop, (∀ H3, Ex H' H3 → Q (f i) H3) → tt ((wipe σ vs).set j (some (xs.getD i .non))) H' Q)
    (he : ∀ i H', i < xs.length → f i = true → Ex H H' → ∀ Q : VK, (∀ H3, Ex H' H3 → Q (v i) H3) → te ((wipe σ vs).set j (some (xs.getD i .non))) H' Q)
    (k : ∀ H', Ex H H' → H' Dl = some (.lst (Evl.given xs.length f v)) → Q (.ref Dl) H') : LoopC (Itl K a) (gName j) tt te vs Dl σ H Q :=
  lc_flat walk_list (fun i => xs.getD i .non) f v (fun i H x H' hi y => ⟨y.1, by rw [List.getD_eq_getElem?_getD, y.2]; rfl⟩) (fun _ e => Evl.ex_l e hx) hn hD hw ht he k
theorem lc_strF {t : List Nat} (f : Nat → Bool) (v : Nat → V) (hn : t.length ≤ 50000) (hD : H Dl = none) (hw : ∀ x, wipe ((wipe σ vs).set j (some x)) vs = wipe σ vs)
    (ht : ∀ i H', i < t.length → Ex H H' → ∀ Q : Bool → Hp → Prop, (∀ H3, Ex H' H3 → Q (f i) H3) → tt ((wipe σ vs).set j (some (.str (tx [t.getD i 0])))) H' Q)
    (he : ∀ i H', i < t.length → f i = true → Ex H H' → ∀ Q : VK, (∀ H3, Ex H' H3 → Q (v i) H3) → te ((wipe σ vs).set j (some (.str (tx [t.getD i 0])))) H' Q)
    (k : ∀ H', Ex H H' → H' Dl = some (.lst (Evl.given t.length f v)) → Q (.ref Dl) H') : LoopC (Its (tx t)) (gName j) tt te vs Dl σ H Q := by
  have hz : (tx t).cps.size = t.length := by simp [tx]
  have w := walk_str (z := tx t)
  rw [hz] at w
  refine lc_flat w (fun i => .str (tx [t.getD i 0])) f v (fun i H x H' hi y => ?_) (fun _ _ => trivial) hn hD hw ht he k
  obtain ⟨e, c, h1, rfl⟩ := y
  refine ⟨e, ?_⟩
  have : t[i]? = some c := by simpa [tx] using h1
  rw [List.getD_eq_getElem?_getD, this]
  rfl
end
/-- a for over a text -/
theorem lp_str {D : Ends} {σ : L2.St} {H : Hp} {tb : TS} {g : TG} {t : List Nat} (Pv : Nat → L2.St → Hp → Prop) (h0 : Pv 0 σ H)
    (hs : ∀ i σ H, i < t.length → Pv i σ H → g (.str (tx [t.getD i 0])) σ H fun σ2 H2 => tb { D with nx := Pv (i + 1), ct := Pv (i + 1), bk := D.nx } σ2 H2) (hd : ∀ σ H, Pv t.length σ H → D.nx σ H) : Loop (Its (tx t)) g tb D σ H := by
  have hz : (tx t).cps.size = t.length := by simp [tx]
  have w := walk_str (z := tx t)
  rw [hz] at w
  refine lp_it w Pv h0 (fun _ _ _ _ _ => trivial) (fun i x σ H H' hi p y => ?_) hd
  obtain ⟨rfl, c, h1, rfl⟩ := y
  have : t[i]? = some c := by simpa [tx] using h1
  have e : t.getD i 0 = c := by rw [List.getD_eq_getElem?_getD, this]; rfl
  have := hs i σ H' hi p
  rw [e] at this
  exact this
theorem ap_rng3 {ta : TA} {σ : L2.St} {H : Hp} {R : It → Hp → Prop} : iRng3 ta σ H R = ta σ H fun vs H1 => ∃ (i j c : Int) (n : Nat), vs = [.int i, .int j, .int c] ∧ RgC i j c n ∧ R (Itc i c n) H1 := rfl
theorem len_abcdef : (Str.ofString "abcdef").length = 6 := by decide +kernel
/-! ### coats -/
theorem putF_nil {f : Str} {v : V} : putF f v [] = [(f, v)] := rfl
theorem putF_ne {f g : Str} {v x : V} {r : List (Str × V)} (h : g ≠ f) : putF f v ((g, x) :: r) = (g, x) :: putF f v r := by
  show (if _ then _ else _) = _
  rw [if_neg h]
def idB (n : Nat) : List Int := mapr n fun i => (i : Int)
theorem rgV_id (n : Nat) : rgV 0 (n : Int) = (idB n).map V.int := by
  unfold rgV idB
  rw [mapr_map]
  unfold mapr
  simp
def usedAt (t : List Nat) (i : Nat) : Nat := rf i (fun u j => if t.getD j 0 = 97 + u then u + 1 else u) 0
def okT (t : List Nat) : Bool := decide (1 ≤ t.length) && (decide (t.length ≤ 6) && (List.range t.length).all fun i => decide (t.getD i 0 = 97 + usedAt t i) || (decide (97 ≤ t.getD i 0) && decide (t.getD i 0 < 97 + usedAt t i)))
theorem okT_iff {t : List Nat} : okT t = true ↔ 1 ≤ t.length ∧ t.length ≤ 6 ∧ ∀ i, i < t.length → t.getD i 0 = 97 + usedAt t i ∨ (97 ≤ t.getD i 0 ∧ t.getD i 0 < 97 + usedAt t i) := by
  simp only [okT, Bool.and_eq_true, decide_eq_true_eq, List.all_eq_true, List.mem_range, Bool.or_eq_true]
theorem usedAt_le (t : List Nat) (i : Nat) : usedAt t i ≤ i := by
  unfold usedAt
  induction i with
  | zero => exact Nat.le_refl _
  | succ n ih => rw [rf_succ]; split <;> omega
theorem usedAt_succ (t : List Nat) (i : Nat) : usedAt t (i + 1) = if t.getD i 0 = 97 + usedAt t i then usedAt t i + 1 else usedAt t i := by
  unfold usedAt
  rw [rf_succ]
theorem mem_abc {u c : Nat} (hu : u ≤ 6) : c ∈ ([97, 98, 99, 100, 101, 102] : List Nat).take u ↔ 97 ≤ c ∧ c < 97 + u := by
  match u, hu with
  | 0, _ => simp <;> omega
  | 1, _ => simp <;> omega
  | 2, _ => simp <;> omega
  | 3, _ => simp <;> omega
  | 4, _ => simp <;> omega
  | 5, _ => simp <;> omega
  | 6, _ => simp <;> omega
theorem beforeOfText_len (t : List Nat) : (beforeOfText t).length = t.length - 1 := mapr_len
theorem beforeOfRows_len (r : List (List Int)) : (beforeOfRows r).length = r.length - 1 := mapr_len
theorem productBefore_len (a b : List Int) : (productBefore a b).length = a.length := by
  unfold productBefore
  rw [beforeOfRows_len, mapr_len]
  rfl
theorem borNear_le (rows : List (List Int)) (e : Nat) : borNear rows e ≤ (e : Int) := by
  unfold borNear
  have : ∀ k, k ≤ e + 1 → rf k (fun n b => if at2 rows b (e + 1 - b) = at2 rows b (e - b) then (b : Int) else n) (-1) ≤ (e : Int) := by
    intro k
    induction k with
    | zero => intro _; rw [rf_zero]; omega
    | succ k ih =>
      intro h
      rw [rf_succ]
      split
      · omega
      · exact ih (by omega)
  exact this _ (Nat.le_refl _)
theorem productBefore_le (a b : List Int) (i : Nat) (h : i < (productBefore a b).length) : (productBefore a b).getD i 0 ≤ (i : Int) := by
  unfold productBefore at h ⊢
  rw [beforeOfRows_len] at h
  unfold beforeOfRows
  rw [mapr_get h]
  exact borNear_le _ _
def mulT (s t : List Nat) : List Nat := textOfBefore (productBefore (beforeOfText s) (beforeOfText t))
/-- all but x as before -/
def ExB (x : Addr) (H H' : Hp) : Prop := ∀ a o, a ≠ x → H a = some o → H' a = some o
def CoatAt (K : Frag) (H : Hp) (a : Addr) (t : List Nat) : Prop := ∃ dx b, H a = some (.ins (gA K "Coat") dx [("_text", .str (tx t)), ("_before", .ref b)]) ∧ SqT K H b ((beforeOfText t).map V.int)
theorem CoatAt.mono {K : Frag} {H H' : Hp} {a : Addr} {t : List Nat} (e : Ex H H') (h : CoatAt K H a t) : CoatAt K H' a t := by
  obtain ⟨dx, b, h1, h2⟩ := h
  exact ⟨dx, b, e _ _ h1, Evl.ex_t e h2⟩
end DR

set_option Elab.async false
set_option linter.all false
set_option maxRecDepth 100000
set_option maxHeartbeats 4000000
/-! enumerate(text), zip(text, list) -/
namespace DR
open PySem PySem.Spec PyProof.Rows L2
open PySem.W (Frag)
def Ites (z : Str) : It := ⟨fun i _ => i < z.cps.size, fun i H v H' => ∃ T c, v = .ref T ∧ H T = none ∧ H' = upd H T (.tup [.int (i : Nat), .str ⟨#[c]⟩]) ∧ z.cps[i]? = some c, fun i _ => i = z.cps.size⟩
theorem turn_enumS {P : Program} {w : World} {K : Frag} {elts : List Expr} {kk : Nat} {tpos : Pos} (e it : Addr) (z : Str) (t : Tok) (hne : e ≠ it) :
    Turn P w K (.Tuple elts kk tpos) (Ites z) [e, it] e (fun i h => (∃ old, IsEnum h e it (0 + (i : Int)) old) ∧ h.IsStrIter it (strIterType z) z t i) where
  mem := by simp
  obj := fun i h st b hb => by
    obtain ⟨⟨old, he⟩, ⟨o, ho, hc, hd⟩⟩ := st
    have e' : b = e ∨ b = it := by simpa using hb
    rcases e' with z | z
    · rw [z]; exact ⟨_, he, fun v q => nomatch q⟩
    · rw [z]; exact ⟨o, ho, fun v q => by rw [hd] at q; cases q⟩
  keep := fun i h h' st k => let ⟨⟨old, he⟩, ⟨o, ho, r⟩⟩ := st; ⟨⟨old, k e (by simp) _ he⟩, ⟨o, k it (by simp) o ho, r⟩⟩
  item := by
    intro X hP hw hK hc i pins s σ H E I hf st hg
    subst hP hw hK
    have hel : e < s.heap.objs.size := by obtain ⟨⟨old, he⟩, _⟩ := st; exact Heap.lt_size he
    have hil : it < s.heap.objs.size := by obtain ⟨_, ⟨o, ho, _⟩⟩ := st; exact Heap.lt_size ho
    have W := GoesN.enumFrom (prog := X.prog) (w := X.w) (A := X.A) (elts := elts) (x1 := kk) (pos := tpos) 0 (Draws.text (w := X.w) (prog := X.prog) (A := X.A.in1) (I.ok.hd hc) it z t) e hne (by simpa using hne) (by simp)
    refine W.goes i s (fun u s2 => ∃ x H', Inv X pins σ H' s2 ∧ RelV x u ∧ (Ites z).yld i H x H' ∧ ((∃ old, IsEnum s2.heap e it (0 + ((i + 1 : Nat) : Int)) old) ∧ s2.heap.IsStrIter it (strIterType z) z t (i + 1)) ∧ ∀ b ∈ [e, it], H' b = none) E hg st fun v h' tk hY st' hk htk => ?_
    obtain ⟨T, t', x, rfl, hT, ⟨c, u, hc1, rfl⟩, hTt⟩ := hY
    have new : ObjOk X.prog X.w (upd H T (.tup [.int (i : Nat), .str ⟨#[c]⟩])) h' T (.tup [.int (i : Nat), .str ⟨#[c]⟩]) :=
      ⟨by show 2 ≤ sizeLine; decide, [.int (0 + (i : Int)) t', .str ⟨#[c]⟩ u], .cons ⟨t', by rw [Int.zero_add]⟩ (.cons ⟨u, rfl⟩ .nil), hTt⟩
    have I1 : Inv X pins σ (upd H T (.tup [.int (i : Nat), .str ⟨#[c]⟩])) { s with heap := h', toks := tk } :=
      I.turnedNew (ch := [e, it]) (fun b ob hb q => hk b ob hb q) hf hT new
    refine ⟨.ref T, _, I1, rfl, ⟨T, c, rfl, I.hok.fresh hT, rfl, hc1⟩, st', fun b hb => ?_⟩
    have hb' : b < s.heap.objs.size := by
      have e' : b = e ∨ b = it := by simpa using hb
      rcases e' with z | z
      · rw [z]; exact hel
      · rw [z]; exact hil
    rw [upd_ne (Nat.ne_of_lt (Nat.lt_of_lt_of_le hb' hT))]
    exact (hf b hb).1
  done := by
    intro X hP hw hK hc i pins s σ H E I hf st hg
    subst hP hw hK
    obtain rfl : i = z.cps.size := hg
    have W := GoesN.enumFrom (prog := X.prog) (w := X.w) (A := X.A) (elts := elts) (x1 := kk) (pos := tpos) 0 (Draws.text (w := X.w) (prog := X.prog) (A := X.A.in1) (I.ok.hd hc) it z t) e hne (by simpa using hne) (by simp)
    exact W.stops s (fun s1 => Inv X pins σ H s1) E st fun h' tk hk htk => I.turnedL (ch := [e, it]) (fun b ob hb q => hk b ob hb q) hf
  self := fun A i s Q E st h => let ⟨⟨_, he⟩, _⟩ := st; wpAny_pyIter_enum he h
def iEnumS (ta : TA) : TI := fun σ H R => ta σ H fun vs H1 => ∃ z : Str, vs = [.str z] ∧ R (Ites z) H1
theorem pi_enumS {X : Cx} {e : Expr} {ta : TA} {p pos tpos : Pos} {elts : List Expr} {kk : Nat} (hg : Gl X "enumerate") (hm : X.mg "enumerate" = none) (ha : PA X [e] ta) (hs : starEach [e] X.env = [(false, eval e X.env)] := by rfl) :
    PI X (.Tuple elts kk tpos) (.Call (.Name "enumerate" p) [e] [] pos) (iEnumS ta) := by
  refine ⟨fun pins s σ H R I h => ?_⟩
  refine Call_ (ld_blt I hg hm boot_enumerate (PyProof.Rows.callWith_type1 (thn (ha.run pos pins s σ H _ I h) fun us s1 ⟨vs, H1, I1, r1, q1⟩ => ?_) hs rfl))
  obtain ⟨z, ex, q⟩ := q1
  subst ex
  cases r1 with
  | cons r rr =>
    cases rr
    obtain ⟨t, rfl⟩ := r
    refine call_enumerate_str fun h' he hit hsz hk => wpAny_pyIter_enum he ?_
    have I2 : Inv X pins σ H1 { s1 with heap := h' } := I1.kept (t' := s1.toks) hk
    refine ⟨s1.heap.objs.size + 1, [s1.heap.objs.size + 1, s1.heap.objs.size], _, _, H1, rfl, I2, turn_enumS (s1.heap.objs.size + 1) s1.heap.objs.size z t (Nat.succ_ne_self _), ⟨⟨.none, he⟩, hit⟩, fun b hb => ?_, q⟩
    have e' : b = s1.heap.objs.size + 1 ∨ b = s1.heap.objs.size := by simpa using hb
    have hle : s1.heap.objs.size ≤ b := by
      rcases e' with z | z
      · rw [z]; exact Nat.le_add_right _ _
      · rw [z]; exact Nat.le_refl _
    exact I1.fpOk hle (I1.hok.fresh hle)
/-! zip(text, list) -/
def Itzs (K : Frag) (z : Str) (b : Addr) : It :=
  ⟨fun i H => i < z.cps.size ∧ ∃ (ys : List V) (y : V), SqL K H b ys ∧ ys[i]? = some y, fun i H v H' => ∃ T c y, v = .ref T ∧ H T = none ∧ H' = upd H T (.tup [.str ⟨#[c]⟩, y]) ∧ z.cps[i]? = some c ∧ ∀ ys, SqL K H b ys → ys[i]? = some y,
    fun i H => ∃ ys : List V, SqL K H b ys ∧ ys.length = z.cps.size ∧ i = z.cps.size⟩
theorem turn_zipS {P : Program} {w : World} {K : Frag} {elts : List Expr} {kk : Nat} {tpos : Pos} {b z TI TO i1 i2 : Addr} (x : Str) (t : Tok) (S : ZipSep2 z TI TO i1 i2 [i1] [i2, b]) (hb : b ≠ i2) :
    Turn P w K (.Tuple elts kk tpos) (Itzs K x b) [z, TI, TO, i1, i2] z (fun i h => IsZip h z TI TO .none ∧ IsTupOf2 h TI (.ref i1) (.ref i2) ∧ (∃ a1 a2, IsTupOf2 h TO a1 a2) ∧ h.IsStrIter i1 (strIterType x) x t i ∧ h.IsListIter i2 b i) where
  mem := by simp
  obj := fun i h st c hc => by
    obtain ⟨hz, hTI, ⟨x, y, hTO⟩, ⟨o1, e1, _, d1⟩, ⟨o2, e2, _, d2⟩⟩ := st
    have e' : c = z ∨ c = TI ∨ c = TO ∨ c = i1 ∨ c = i2 := by simpa using hc
    rcases e' with q | q | q | q | q
    · rw [q]; exact ⟨_, hz, fun v q => nomatch q⟩
    · rw [q]; exact ⟨_, hTI, fun v q => nomatch q⟩
    · rw [q]; exact ⟨_, hTO, fun v q => nomatch q⟩
    · rw [q]; exact ⟨o1, e1, fun v q => by rw [d1] at q; cases q⟩
    · rw [q]; exact ⟨o2, e2, fun v q => by rw [d2] at q; cases q⟩
  keep := fun i h h' st k => by
    obtain ⟨hz, hTI, ⟨x, y, hTO⟩, ⟨o1, e1, r1⟩, h2⟩ := st
    exact ⟨k z (by simp) _ hz, k TI (by simp) _ hTI, ⟨x, y, k TO (by simp) _ hTO⟩, ⟨o1, k i1 (by simp) o1 e1, r1⟩, h2.at fun o q => k i2 (by simp) o q⟩
  item := by
    intro X hP hw hK hc i pins s σ H E I hf st hg
    subst hP hw hK
    obtain ⟨hi, ys, y, hqy, hy⟩ := hg
    obtain ⟨its, rv, p, _⟩ := I.list hqy
    obtain ⟨u2, hu2, ru2⟩ := rv.get hy
    have hlt : ∀ c ∈ [z, TI, TO, i1, i2], c < s.heap.objs.size := by
      obtain ⟨hz, hTI, ⟨x, y, hTO⟩, ⟨o1, e1, _⟩, ⟨o2, e2, _⟩⟩ := st
      intro c hcm
      have e' : c = z ∨ c = TI ∨ c = TO ∨ c = i1 ∨ c = i2 := by simpa using hcm
      rcases e' with q | q | q | q | q
      · rw [q]; exact Heap.lt_size hz
      · rw [q]; exact Heap.lt_size hTI
      · rw [q]; exact Heap.lt_size hTO
      · rw [q]; exact Heap.lt_size e1
      · rw [q]; exact Heap.lt_size e2
    have W := GoesN.zip2 (prog := X.prog) (w := X.w) (A := X.A) (elts := elts) (x1 := kk) (pos := tpos) S (Draws.text (w := X.w) (prog := X.prog) (A := X.A.in1) (I.ok.hd hc) i1 x t) (Draws.list (w := X.w) (prog := X.prog) (A := X.A.in1) (I.ok.hd hc) i2 b hb its.toArray)
    have hmin : i < min x.cps.size its.toArray.size := by
      have := (List.getElem?_eq_some_iff.mp hu2).1
      have e : its.toArray.size = its.length := by simp
      omega
    refine W.goes i s (fun u s2 => ∃ x' H', Inv X pins σ H' s2 ∧ RelV x' u ∧ (Itzs X.K x b).yld i H x' H' ∧ (IsZip s2.heap z TI TO .none ∧ IsTupOf2 s2.heap TI (.ref i1) (.ref i2) ∧ (∃ a1 a2, IsTupOf2 s2.heap TO a1 a2) ∧ s2.heap.IsStrIter i1 (strIterType x) x t (i + 1) ∧ s2.heap.IsListIter i2 b (i + 1)) ∧ ∀ b ∈ [z, TI, TO, i1, i2], H' b = none) E hmin
      ⟨st.1, st.2.1, st.2.2.1, st.2.2.2.1, st.2.2.2.2, p.isList⟩ fun v h' tk hY st' hk htk => ?_
    obtain ⟨T, x1, x2, rfl, hT, ⟨c, u, hc1, rfl⟩, hx2, hTt⟩ := hY
    have ex2 : x2 = u2 := by
      have : its[i]? = some x2 := by simpa using hx2
      rw [hu2] at this
      exact (Option.some.inj this).symm
    subst ex2
    have new : ObjOk X.prog X.w (upd H T (.tup [.str ⟨#[c]⟩, y])) h' T (.tup [.str ⟨#[c]⟩, y]) :=
      ⟨by show 2 ≤ sizeLine; decide, [.str ⟨#[c]⟩ u, x2], .cons ⟨u, rfl⟩ (.cons ru2 .nil), hTt⟩
    have I1 : Inv X pins σ (upd H T (.tup [.str ⟨#[c]⟩, y])) { s with heap := h', toks := tk } :=
      I.turnedNew (ch := [z, TI, TO, i1, i2]) (fun c o hb q => hk c o (fun q' => hb (by
        have : c = z ∨ c = TO ∨ c = i1 ∨ c = i2 := by simpa using q'
        rcases this with z | z | z | z <;> simp [z])) q) hf hT new
    refine ⟨.ref T, _, I1, rfl, ⟨T, c, y, rfl, I.hok.fresh hT, rfl, hc1, fun l hl => by rw [I.list_inj hl hqy]; exact hy⟩, ⟨st'.1, st'.2.1, st'.2.2.1, st'.2.2.2.1, st'.2.2.2.2.1⟩, fun c hcm => ?_⟩
    rw [upd_ne (Nat.ne_of_lt (Nat.lt_of_lt_of_le (hlt c hcm) hT))]
    exact (hf c hcm).1
  done := by
    intro X hP hw hK hc i pins s σ H E I hf st hg
    subst hP hw hK
    obtain ⟨ys, hqy, hly, rfl⟩ := hg
    obtain ⟨its, rv, p, _⟩ := I.list hqy
    have W := GoesN.zip2 (prog := X.prog) (w := X.w) (A := X.A) (elts := elts) (x1 := kk) (pos := tpos) S (Draws.text (w := X.w) (prog := X.prog) (A := X.A.in1) (I.ok.hd hc) i1 x t) (Draws.list (w := X.w) (prog := X.prog) (A := X.A.in1) (I.ok.hd hc) i2 b hb its.toArray)
    have hn : min x.cps.size its.toArray.size = x.cps.size := by
      have := rv.length
      have e : its.toArray.size = its.length := by simp
      omega
    rw [hn] at W
    exact W.stops s (fun s1 => Inv X pins σ H s1) E ⟨st.1, st.2.1, st.2.2.1, st.2.2.2.1, st.2.2.2.2, p.isList⟩ fun h' tk hk htk => I.turnedL (ch := [z, TI, TO, i1, i2]) (fun c o hb q => hk c o (fun q' => hb (by
        have : c = z ∨ c = TO ∨ c = i1 ∨ c = i2 := by simpa using q'
        rcases this with z | z | z | z <;> simp [z])) q) hf
  self := fun A i s Q E st h => wpAny_pyIter_zip st.1 h
def iZipS (K : Frag) (ta : TA) : TI := fun σ H R => ta σ H fun vs H1 => ∃ (z : Str) (b : Addr) (ys : List V), vs = [.str z, .ref b] ∧ SqL K H1 b ys ∧ R (Itzs K z b) H1
theorem pi_zipSL {X : Cx} {e e2 : Expr} {ta : TA} {p pos tpos : Pos} {elts : List Expr} {kk : Nat} (hg : Gl X "zip") (hm : X.mg "zip" = none) (ha : PA X [e, e2] ta)
    (hs : starEach [e, e2] X.env = (false, eval e X.env) :: starEach [e2] X.env := by rfl) (hpl : (backTo pos (starEach [e2] X.env)).any (·.1) = false := by rfl) :
    PI X (.Tuple elts kk tpos) (.Call (.Name "zip" p) [e, e2] [] pos) (iZipS X.K ta) := by
  refine ⟨fun pins s σ H R I h => ?_⟩
  refine Call_ (ld_blt I hg hm PyProof.Rows.boot_zip (PyProof.Rows.callWith_type1 (thn (ha.run pos pins s σ H _ I h) fun us s1 ⟨vs, H1, I1, r1, q1⟩ => ?_) hs hpl))
  obtain ⟨z, b, ys, ex, hqy, q⟩ := q1
  subst ex
  cases r1 with
  | cons r rr =>
    cases rr with
    | cons r' rr =>
      cases rr
      obtain ⟨t, rfl⟩ := r
      cases r'
      obtain ⟨its, rv, p', hz⟩ := I1.list hqy
      have hbl : b < s1.heap.objs.size := p'.lt
      refine zip_begins2 (begins_text z t) (begins_list b its.toArray) trivial p'.isList fun h' hz hTI hTO h1 h2 hsz hk => wpAny_pyIter_zip hz ?_
      have I2 : Inv X pins σ H1 { s1 with heap := h' } := I1.kept (t' := s1.toks) hk
      refine ⟨s1.heap.objs.size + 4, [s1.heap.objs.size + 4, s1.heap.objs.size + 2, s1.heap.objs.size + 3, s1.heap.objs.size, s1.heap.objs.size + 1], _, _, H1, rfl, I2, turn_zipS z t (zip_sep2 (fp1 := []) (fp2 := [b]) (by simp) (by simpa using hbl)) (Nat.ne_of_lt (Nat.lt_succ_of_lt hbl)),
        ⟨hz, hTI, ⟨_, _, hTO⟩, ⟨_, h1, rfl, rfl⟩, ⟨_, h2, rfl, rfl⟩⟩, fun c hcm => ?_, q⟩
      have e' : c = s1.heap.objs.size + 4 ∨ c = s1.heap.objs.size + 2 ∨ c = s1.heap.objs.size + 3 ∨ c = s1.heap.objs.size ∨ c = s1.heap.objs.size + 1 := by simpa using hcm
      have hle : s1.heap.objs.size ≤ c := by
        rcases e' with z | z | z | z | z
        · rw [z]; exact Nat.le_add_right _ _
        · rw [z]; exact Nat.le_add_right _ _
        · rw [z]; exact Nat.le_add_right _ _
        · rw [z]; exact Nat.le_refl _
        · rw [z]; exact Nat.le_add_right _ _
      exact I1.fpOk hle (I1.hok.fresh hle)
/-! walks over them -/
theorem walk_enumS {t : List Nat} : Walk (Ites (tx t)) t.length (fun _ => True) (fun i H v H' => ∃ T, v = .ref T ∧ H T = none ∧ H' = upd H T (.tup [.int (i : Nat), .str (tx [t.getD i 0])])) := by
  have hz : (tx t).cps.size = t.length := by simp [tx]
  refine ⟨fun i H hi _ => by show i < _; rw [hz]; exact hi, fun H _ => by show _ = _; rw [hz], fun i H x H' hi _ y => ?_⟩
  obtain ⟨T, c, h1, h2, h3, h4⟩ := y
  have : t[i]? = some c := by simpa [tx] using h4
  have e : t.getD i 0 = c := by rw [List.getD_eq_getElem?_getD, this]; rfl
  exact ⟨T, h1, h2, by rw [e]; exact h3⟩
theorem walk_zipS {K : Frag} {t : List Nat} {b : Addr} {ys : List V} (hl : ys.length = t.length) : Walk (Itzs K (tx t) b) t.length (fun H => SqL K H b ys) (fun i H v H' => ∃ T y, v = .ref T ∧ H T = none ∧ H' = upd H T (.tup [.str (tx [t.getD i 0]), y]) ∧ ys[i]? = some y) := by
  have hz : (tx t).cps.size = t.length := by simp [tx]
  refine ⟨fun i H hi q => ⟨by rw [hz]; exact hi, ys, ys[i]'(by omega), q, by simp [hl, hi]⟩, fun H q => ⟨ys, q, by rw [hz]; exact hl, hz.symm⟩, fun i H x H' hi q y => ?_⟩
  obtain ⟨T, c, v, h1, h2, h3, h4, h5⟩ := y
  have : t[i]? = some c := by simpa [tx] using h4
  have e : t.getD i 0 = c := by rw [List.getD_eq_getElem?_getD, this]; rfl
  exact ⟨T, v, h1, h2, by rw [e]; exact h3, h5 ys q⟩
theorem ap_enumS {ta : TA} {σ : L2.St} {H : Hp} {R : It → Hp → Prop} : iEnumS ta σ H R = ta σ H fun vs H1 => ∃ z : Str, vs = [.str z] ∧ R (Ites z) H1 := rfl
theorem ap_zipS {K : Frag} {ta : TA} {σ : L2.St} {H : Hp} {R : It → Hp → Prop} : iZipS K ta σ H R = ta σ H fun vs H1 => ∃ (z : Str) (b : Addr) (ys : List V), vs = [.str z, .ref b] ∧ SqL K H1 b ys ∧ R (Itzs K z b) H1 := rfl
end DR

set_option Elab.async false
set_option linter.all false
set_option maxRecDepth 100000
set_option maxHeartbeats 4000000
namespace DR
open PySem PySem.Spec PyProof.Rows L2
open PySem.W (Frag)
local macro_rules
  | `(tactic| walk_at "wp") => `(tactic| try simp only [L2.start, List.map_cons, List.map_nil, List.length_cons, List.length_nil, List.replicate, Nat.reduceAdd, Nat.reduceSub, List.cons_append, List.nil_append, List.append_nil, List.set_cons_succ, List.set_cons_zero,
      List.getElem?_cons_succ, List.getElem?_cons_zero, ap_K1, ap_K2, ap_seq, ap_next, ap_asg, ap_name, ap_ret, ap_retN, ap_drop, ap_ifS, ap_c, ap_var, ap_op, ap_un, ap_chain, ap_test, ap_B, ap_and, ap_or, ap_not, ap_yes, ap_andV, ap_orV, ap_notV, ap_if, ap_nil, ap_cons, ap_cb, ap_lst, ap_tup, ap_bm, ap_bm0, ap_m1, ap_call, ap_sl, ap_part, ap_nopart, ap_rI0, ap_rI, ap_rU, ap_eqI, ap_neI, ap_eqS, ap_neS, ap_eqB, ap_neB, ap_fld, ap_tup_, ap_gcons, ap_gnil, ap_gsub, ap_for, ap_lc, ap_rng1, ap_rng2, ap_list, ap_itup, ap_str, ap_enum, ap_zip, ap_inSg, ap_ninSg, ap_addS, ap_sfld, ap_meth, ap_prop, ap_make, ap_smeth, ap_never, ap_ost, ap_callS, ap_mko, ap_enumS, ap_zipS, ap_rng3, ap_listRg, ap_rg1, ap_cval, len_abcdef, exists_and_left, exists_and_right, exists_eq_left', and_assoc, exists_eq_left, exists_eq, exists_eq', Option.some.injEq, V.int.injEq, V.str.injEq, V.ref.injEq, V.bl.injEq, V.ty.injEq, List.cons.injEq, and_true, true_and, decide_eq_true_eq, Bool.not_eq_true', decide_eq_false_iff_not, Bool.false_eq_true, if_true, if_false, reduceCtorEq, false_and, and_false, or_false, false_or, or_true, true_or, not_true_eq_false, not_false_eq_true, Int.zero_add, lit_nil, lit_a, tx_len, one_tx, tx_app, tx_inj, exists_const, forall_const])
  | `(tactic| walk_at "om") => `(tactic| repeat (refine ⟨by first | omega | exact szI, ?_⟩))

def sp_count_in (K : Frag) : Sp := fun vs H Q _ => ∃ (a : Addr) (bs : List Int) (b e : Nat), vs = [.ref a, .int b, .int e] ∧ SqT K H a (bs.map V.int) ∧ b ≤ e ∧ e ≤ bs.length ∧ bs.length ≤ 100 ∧ Q (.int (countIn bs b e)) H
theorem sc_count_in : FnScope ["before", "begin", "end", "new", "gap"] ["before", "begin", "end"] (defScope s_count_in) := ⟨rfl, rfl, rfl, by decide +kernel, rfl, by decide +kernel, by decide +kernel⟩
theorem b_count_in {K : Frag} {mg : Str → Option Value} (c : Wd K mg) : Binds K (fdOf K (gA K "count_in")) ["before", "begin", "end"] [] := c.f_count_in.binds (fun _ _ _ _ _ _ us hl => match us, hl with | [_, _, _], _ => rfl)
theorem ok_count_in {P : Program} {w : World} {K : Frag} {mg : Str → Option Value} {base : Heap} (c : Wd K mg) : FnOk P w K mg base (L2.CX P w) 1 (gA K "count_in") (fdOf K (gA K "count_in")) ["before", "begin", "end"] (sp_count_in K) := by
  refine c.f_count_in.okX sc_count_in (fun vs H Q E h => ?_) (fun cdv A outer s H vs Q E hr h => ⟨_, PSs.nox (pss_cons (ps_set (i := 3) sc_count_in.nd rfl (Or.inl rfl) pe_int)
      (pss_cons (ps_for PassesOwn.never rfl (pi_range2 rfl c.z_range (pa_cons (pe_op op_add (pv 1) pe_int) (pa_cons (pe_op op_add (pv 2) pe_int) pa_nil))) (pg_name (i := 4) sc_count_in.nd rfl (Or.inl rfl)) (pss_one (ps_if (pt_cmpR op_lt (pe_ix ix_tup (pv 0) (pe_op op_sub (pv 4) pe_int) (fun _ _ => rfl)) (pv 1) (nomark _)) (pss_one (ps_set (i := 3) sc_count_in.nd rfl (Or.inl rfl) (pe_op op_add (pv 3) pe_int))) pss_nil)))
      (pss_one (ps_ret (pv 3))))), ?_⟩)
  · obtain ⟨a, bs, b, e, rfl, hS, hbe, hel, hsz, hQ⟩ := h
    rfl
  obtain ⟨a, bs, b, e, rfl, hS, hbe, hel, hsz, hQ⟩ := h
  walk_at "wp"
  refine ⟨by omega, by omega, by omega, by omega, lp_rng (fun i σ' H' => ∃ x, σ' = [some (.ref a), some (.int b), some (.int e), some (.int (rf i (fun n i => if bs.getD (b + i) 0 < (b : Int) then n + 1 else n) 0)), x] ∧ H' = H) ⟨_, rfl, rfl⟩ ?_ ?_⟩
  · rintro i σ' H' hi ⟨x, rfl, rfl⟩
    walk_at "wp"
    refine ixT_i (b + i) hS (by omega) (by omega) ?_
    walk_at "wp"
    split <;> rename_i h <;> rw [rf_succ]
    · rw [if_pos h]
    · rw [if_neg h]
  · rintro σ' H' ⟨x, rfl, rfl⟩
    walk_at "wp"
    rw [show ((e : Int) + 1 - (b + 1)).toNat = e - b by omega]
    exact hQ
def sp_count_rows (K : Frag) : Sp := fun vs H Q _ => ∃ (a : Addr) (bs : List Int), vs = [.ref a] ∧ SqT K H a (bs.map V.int) ∧ bs.length ≤ 100 ∧ ∀ p H', H p = none → Ex H H' → LL H' p (countRows bs) → Q (.ref p) H'
theorem sc_count_rows : FnScope ["before", "rows", "begin", "row", "nearest"] ["before"] (defScope s_count_rows) := ⟨rfl, rfl, rfl, by decide +kernel, rfl, by decide +kernel, by decide +kernel⟩
theorem b_count_rows {K : Frag} {mg : Str → Option Value} (c : Wd K mg) : Binds K (fdOf K (gA K "count_rows")) ["before"] [] := c.f_count_rows.binds (fun _ _ _ _ _ _ us hl => match us, hl with | [_], _ => rfl)
theorem ok_count_rows {P : Program} {w : World} {K : Frag} {mg : Str → Option Value} {base : Heap} (c : Wd K mg) : FnOk P w K mg base (L2.CX P w) 1 (gA K "count_rows") (fdOf K (gA K "count_rows")) ["before"] (sp_count_rows K) := by
  refine c.f_count_rows.okX sc_count_rows (fun vs H Q E h => ?_) (fun cdv A outer s H vs Q E hr h => ⟨_, PSs.nox (pss_cons (ps_set (i := 1) sc_count_rows.nd rfl (Or.inl rfl) (pe_lst pa_nil))
      (pss_cons (ps_for PassesOwn.never rfl (pi_range1 rfl c.z_range (pa_cons (pe_op op_add (pe_callB call_lenV (by rfl) c.z_len (by decide +kernel) (pa_cons (pv 0) pa_nil)) pe_int) pa_nil)) (pg_name (i := 2) sc_count_rows.nd rfl (Or.inl rfl)) (pss_cons (ps_set (i := 3) sc_count_rows.nd rfl (Or.inl rfl) (pe_lst (pa_cons pe_int pa_nil)))
      (pss_cons (ps_for PassesOwn.never rfl (pi_tup (pe_slice sl_tupA (pv 0) (po_some (pv 2)) po_none)) (pg_name (i := 4) sc_count_rows.nd rfl (Or.inl rfl)) (pss_one (ps_if (pt_cmpR op_lt (pv 4) (pv 2) (nomark _)) (pss_one (ps_expr (pe_bm PySem.F.plainAttrs_list PySem.F.slot_list_append PySem.F.type_list_append mt_append (pv 3) (pa_cons (pe_op op_add (pe_ix ix_list (pv 3) (pe_un un_neg pe_int) (fun _ _ => rfl)) pe_int) pa_nil)))) (pss_one (ps_expr (pe_bm PySem.F.plainAttrs_list PySem.F.slot_list_append PySem.F.type_list_append mt_append (pv 3) (pa_cons (pe_ix ix_list (pv 3) (pe_un un_neg pe_int) (fun _ _ => rfl)) pa_nil)))))))
      (pss_one (ps_expr (pe_bm PySem.F.plainAttrs_list PySem.F.slot_list_append PySem.F.type_list_append mt_append (pv 1) (pa_cons (pv 3) pa_nil)))))))
      (pss_one (ps_ret (pv 1))))), ?_⟩)
  · obtain ⟨a, bs, rfl, hS, hsz, hQ⟩ := h
    rfl
  obtain ⟨a, bs, rfl, hS, hsz, hQ⟩ := h
  walk_at "wp"
  refine ⟨szI, fun p hp => len_t (Evl.ex_t (Evl.Ex.new hp) hS) rfl ?_⟩
  walk_at "wp"
  rw [List.length_map]
  refine ⟨by omega, by omega, lp_rng (fun i σ' H' => ∃ x y z, σ' = [some (.ref a), some (.ref p), x, y, z] ∧ Ex H H' ∧ LL H' p (mapr i (rowOf bs))) ⟨_, _, _, rfl, Evl.Ex.new hp, LL.nil⟩ ?_ ?_⟩
  · rintro i σ' H' hi ⟨x, y, z, rfl, hx, hL⟩
    walk_at "wp"
    refine ⟨szI, fun q hq => ?_⟩
    refine slA_i i (Evl.ex_t (hx.trans (Evl.Ex.new hq)) hS) (by omega) (by omega) fun p1 H1 hx1 hS1 => ?_
    walk_at "wp"
    refine ⟨⟨_, hS1⟩, lp_tup (fun j σ' H2 => ∃ z, σ' = [some (.ref a), some (.ref p), some (.int (i : Int)), some (.ref q), z] ∧ Ex H' H2 ∧ SqT K H2 p1 ((bs.drop i).map V.int) ∧ H2 q = some (.lst ((rf j (rowStep bs i) [0]).map V.int)))
      ⟨_, rfl, (Evl.Ex.new hq).trans hx1, hS1, hx1 _ _ upd_same⟩ (fun j σ' H2 _ ⟨z, _, _, h, _⟩ => h) ?_ ?_⟩
    · rintro j v σ' H2 hj hv ⟨z, rfl, hx2, hS2, hq2⟩
      rw [List.getElem?_map] at hv
      rw [List.length_map, List.length_drop] at hj
      rw [List.getElem?_drop, List.getElem?_eq_getElem (by omega)] at hv
      simp only [Option.map_some, Option.some.injEq] at hv
      subst hv
      have hlen := rowOf_len bs i j
      have hg : bs.getD (i + j) 0 = bs[i + j] := by rw [List.getD_eq_getElem?_getD, List.getElem?_eq_getElem (by omega)]; rfl
      have fin : ∀ v : Int, rowStep bs i (rf j (rowStep bs i) [0]) j = rf j (rowStep bs i) [0] ++ [v] → Ex H' (upd H2 q (.lst ((rf j (rowStep bs i) [0]).map V.int ++ [.int v]))) ∧
          SqT K (upd H2 q (.lst ((rf j (rowStep bs i) [0]).map V.int ++ [.int v]))) p1 ((bs.drop i).map V.int) ∧ upd H2 q (.lst ((rf j (rowStep bs i) [0]).map V.int ++ [.int v])) q = some (.lst ((rf (j + 1) (rowStep bs i) [0]).map V.int)) := by
        intro v hv
        exact ⟨hx2.mut hq, SqT_mut hq2 hS2, by rw [upd_same, rf_succ, hv]; simp⟩
      walk_at "wp"
      split <;> rename_i h
      · refine ⟨tyL hq2, ixL_last (Evl.sq_of hq2) (rowOf_ne _ _ _) ?_⟩
        walk_at "wp"
        refine app_ok hq2 (by simp [hlen]; omega) ?_
        refine fin _ ?_
        unfold rowStep
        rw [hg, if_pos h]
      · refine ⟨tyL hq2, ixL_last (Evl.sq_of hq2) (rowOf_ne _ _ _) ?_⟩
        refine app_ok hq2 (by simp [hlen]; omega) ?_
        refine fin _ ?_
        unfold rowStep
        rw [hg, if_neg h]
    · rintro σ' H2 ⟨z, rfl, hx2, hS2, hq2⟩
      walk_at "wp"
      have hL2 := hL.mono hx2
      obtain ⟨as, ha, hb⟩ := id hL2
      refine ⟨tyL ha, app_ok ha (by simp [hb.1, mapr_len]; omega) ?_⟩
      refine ⟨(hx.trans hx2).mut hp, ?_⟩
      rw [mapr_succ]
      refine hL2.push ha (by rw [hq2, List.length_map, List.length_drop]; rfl) ?_
      rintro rfl
      obtain ⟨bs', hb', _⟩ := hL
      rw [hq] at hb'
      cases hb'
  · rintro σ' H' ⟨x, y, z, rfl, hx, hL⟩
    walk_at "wp"
    refine hQ p H' hp hx ?_
    rw [show ((bs.length : Int) + 1).toNat = bs.length + 1 by omega] at hL
    exact hL
def sp_before_of_rows (K : Frag) : Sp := fun vs H Q _ => ∃ (a : Addr) (rows : List (List Int)), vs = [.ref a] ∧ LL H a rows ∧ rows.length ≤ 100 ∧ (∀ b, b < rows.length → rows.length - b ≤ (rows.getD b []).length) ∧ ∀ p H', H p = none → Ex H H' → H' p = some (.lst ((beforeOfRows rows).map V.int)) → Q (.ref p) H'
theorem sc_before_of_rows : FnScope ["rows", "before", "end", "nearest", "begin", "row"] ["rows"] (defScope s_before_of_rows) := ⟨rfl, rfl, rfl, by decide +kernel, rfl, by decide +kernel, by decide +kernel⟩
theorem b_before_of_rows {K : Frag} {mg : Str → Option Value} (c : Wd K mg) : Binds K (fdOf K (gA K "before_of_rows")) ["rows"] [] := c.f_before_of_rows.binds (fun _ _ _ _ _ _ us hl => match us, hl with | [_], _ => rfl)
theorem ok_before_of_rows {P : Program} {w : World} {K : Frag} {mg : Str → Option Value} {base : Heap} (c : Wd K mg) : FnOk P w K mg base (L2.CX P w) 1 (gA K "before_of_rows") (fdOf K (gA K "before_of_rows")) ["rows"] (sp_before_of_rows K) := by
  refine c.f_before_of_rows.okX sc_before_of_rows (fun vs H Q E h => ?_) (fun cdv A outer s H vs Q E hr h => ⟨_, PSs.nox (pss_cons (ps_set (i := 1) sc_before_of_rows.nd rfl (Or.inl rfl) (pe_lst pa_nil))
      (pss_cons (ps_for PassesOwn.never rfl (pi_range2 rfl c.z_range (pa_cons pe_int (pa_cons (pe_callB call_lenV (by rfl) c.z_len (by decide +kernel) (pa_cons (pv 0) pa_nil)) pa_nil))) (pg_name (i := 2) sc_before_of_rows.nd rfl (Or.inl rfl)) (pss_cons (ps_set (i := 3) sc_before_of_rows.nd rfl (Or.inl rfl) (pe_un un_neg pe_int))
      (pss_cons (ps_for PassesOwn.never rfl (pi_range1 rfl c.z_range (pa_cons (pv 2) pa_nil)) (pg_name (i := 4) sc_before_of_rows.nd rfl (Or.inl rfl)) (pss_cons (ps_set (i := 5) sc_before_of_rows.nd rfl (Or.inl rfl) (pe_ix ix_list (pv 0) (pv 4) (fun _ _ => rfl)))
      (pss_one (ps_if (pt_cmpR op_eq (pe_ix ix_list (pv 5) (pe_op op_sub (pv 2) (pv 4)) (fun _ _ => rfl)) (pe_ix ix_list (pv 5) (pe_op op_sub (pe_op op_sub (pv 2) (pv 4)) pe_int) (fun _ _ => rfl)) (nomark _)) (pss_one (ps_set (i := 3) sc_before_of_rows.nd rfl (Or.inl rfl) (pv 4))) pss_nil))))
      (pss_one (ps_expr (pe_bm PySem.F.plainAttrs_list PySem.F.slot_list_append PySem.F.type_list_append mt_append (pv 1) (pa_cons (pv 3) pa_nil)))))))
      (pss_one (ps_ret (pv 1))))), ?_⟩)
  · obtain ⟨a, rows, rfl, hL, hsz, hrow, hQ⟩ := h
    rfl
  obtain ⟨a, rows, rfl, hL, hsz, hrow, hQ⟩ := h
  walk_at "wp"
  refine ⟨szI, fun p hp => ?_⟩
  obtain ⟨vs, hv1, hv2, _⟩ := (hL.mono (Evl.Ex.new (o := .lst []) hp)).seq (K := K)
  refine len_l hv1 rfl ?_
  walk_at "wp"
  walk_at "om"
  refine lp_rng (fun i σ' H' => ∃ x y z w, σ' = [some (.ref a), some (.ref p), x, y, z, w] ∧ Ex H H' ∧ H' p = some (.lst ((mapr i (borNear rows)).map V.int))) ⟨_, _, _, _, rfl, Evl.Ex.new hp, upd_same⟩ ?_ ?_
  · rintro i σ' H' hi ⟨x, y, z, w, rfl, hx, hl⟩
    walk_at "wp"
    walk_at "om"
    refine lp_rng (fun j σ' H2 => ∃ z w, σ' = [some (.ref a), some (.ref p), some (.int (1 + (i : Int))), some (.int (rf j (fun n b => if at2 rows b (i + 1 - b) = at2 rows b (i - b) then (b : Int) else n) (-1))), z, w] ∧ H2 = H') ⟨_, _, rfl, rfl⟩ ?_ ?_
    · rintro j σ' H2 hj ⟨z, w, rfl, rfl⟩
      walk_at "wp"
      have hb := hrow j (by omega)
      refine ixL_row j (hL.mono hx) rfl (by omega) fun r hr => ?_
      walk_at "wp"
      refine ixL_i (i + 1 - j) hr (by omega) (by omega) ?_
      refine ixL_i (i - j) hr (by omega) (by omega) ?_
      walk_at "wp"
      split <;> rename_i h
      · rw [rf_succ]; exact (if_pos h).symm
      · rw [rf_succ]; exact (if_neg h).symm
    · rintro σ' H2 ⟨z, w, rfl, rfl⟩
      walk_at "wp"
      refine ⟨tyL hl, app_ok hl (by simp [mapr_len]; omega) ?_⟩
      refine ⟨hx.mut hp, ?_⟩
      rw [upd_same, mapr_succ, List.map_append, show ((1 : Int) + (i : Int)).toNat = i + 1 by omega] <;> rfl
  · rintro σ' H' ⟨x, y, z, w, rfl, hx, hl⟩
    walk_at "wp"
    rw [show ((vs.length : Int) - 1).toNat = rows.length - 1 by omega] at hl
    exact hQ p H' hp hx hl
def sp_before_of_text (K : Frag) : Sp := fun vs H Q _ => ∃ (t : List Nat), vs = [.str (tx t)] ∧ t.length ≤ 100 ∧ ∀ p H', H p = none → Ex H H' → H' p = some (.lst ((beforeOfText t).map V.int)) → Q (.ref p) H'
theorem sc_before_of_text : FnScope ["text", "before", "gap", "nearest", "earlier"] ["text"] (defScope s_before_of_text) := ⟨rfl, rfl, rfl, by decide +kernel, rfl, by decide +kernel, by decide +kernel⟩
theorem b_before_of_text {K : Frag} {mg : Str → Option Value} (c : Wd K mg) : Binds K (fdOf K (gA K "before_of_text")) ["text"] [] := c.f_before_of_text.binds (fun _ _ _ _ _ _ us hl => match us, hl with | [_], _ => rfl)
theorem ok_before_of_text {P : Program} {w : World} {K : Frag} {mg : Str → Option Value} {base : Heap} (c : Wd K mg) : FnOk P w K mg base (L2.CX P w) 1 (gA K "before_of_text") (fdOf K (gA K "before_of_text")) ["text"] (sp_before_of_text K) := by
  refine c.f_before_of_text.okX sc_before_of_text (fun vs H Q E h => ?_) (fun cdv A outer s H vs Q E hr h => ⟨_, PSs.nox (pss_cons (ps_set (i := 1) sc_before_of_text.nd rfl (Or.inl rfl) (pe_lst pa_nil))
      (pss_cons (ps_for PassesOwn.never rfl (pi_range2 rfl c.z_range (pa_cons pe_int (pa_cons (pe_callB call_len_str (by rfl) c.z_len (by decide +kernel) (pa_cons (pv 0) pa_nil)) pa_nil))) (pg_name (i := 2) sc_before_of_text.nd rfl (Or.inl rfl)) (pss_cons (ps_set (i := 3) sc_before_of_text.nd rfl (Or.inl rfl) (pe_un un_neg pe_int))
      (pss_cons (ps_for PassesOwn.never rfl (pi_range1 rfl c.z_range (pa_cons (pv 2) pa_nil)) (pg_name (i := 4) sc_before_of_text.nd rfl (Or.inl rfl)) (pss_one (ps_if (pt_cmpR op_eq (pe_ix ix_str (pv 0) (pv 4) (fun _ _ => rfl)) (pe_ix ix_str (pv 0) (pv 2) (fun _ _ => rfl)) (nomark _)) (pss_one (ps_set (i := 3) sc_before_of_text.nd rfl (Or.inl rfl) (pv 4))) pss_nil)))
      (pss_one (ps_expr (pe_bm PySem.F.plainAttrs_list PySem.F.slot_list_append PySem.F.type_list_append mt_append (pv 1) (pa_cons (pv 3) pa_nil)))))))
      (pss_one (ps_ret (pv 1))))), ?_⟩)
  · obtain ⟨t, rfl, hsz, hQ⟩ := h
    rfl
  obtain ⟨t, rfl, hsz, hQ⟩ := h
  walk_at "wp"
  refine ⟨szI, fun p hp => ?_⟩
  walk_at "om"
  refine lp_rng (fun i σ' H' => ∃ x y z, σ' = [some (.str (tx t)), some (.ref p), x, y, z] ∧ Ex H H' ∧ H' p = some (.lst ((mapr i (botNear t)).map V.int))) ⟨_, _, _, rfl, Evl.Ex.new hp, upd_same⟩ ?_ ?_
  · rintro i σ' H' hi ⟨x, y, z, rfl, hx, hl⟩
    walk_at "wp"
    walk_at "om"
    refine lp_rng (fun j σ' H2 => ∃ z, σ' = [some (.str (tx t)), some (.ref p), some (.int (1 + (i : Int))), some (.int (rf j (fun n e => if t.getD e 0 = t.getD (i + 1) 0 then (e : Int) else n) (-1))), z] ∧ H2 = H') ⟨_, rfl, rfl⟩ ?_ ?_
    · rintro j σ' H2 hj ⟨z, rfl, rfl⟩
      walk_at "wp"
      refine ixS_t j rfl (by omega) (by omega) ?_
      refine ixS_t (i + 1) (by omega) (by omega) (by omega) ?_
      walk_at "wp"
      split <;> rename_i h
      · rw [rf_succ, if_pos h]
      · rw [rf_succ, if_neg h]
    · rintro σ' H2 ⟨z, rfl, rfl⟩
      walk_at "wp"
      refine ⟨tyL hl, app_ok hl (by simp [mapr_len]; omega) ?_⟩
      refine ⟨hx.mut hp, ?_⟩
      rw [upd_same, mapr_succ, List.map_append, show ((1 : Int) + (i : Int)).toNat = i + 1 by omega] <;> rfl
  · rintro σ' H' ⟨x, y, z, rfl, hx, hl⟩
    walk_at "wp"
    rw [show ((t.length : Int) - 1).toNat = t.length - 1 by omega] at hl
    exact hQ p H' hp hx hl
def sp_text_of_before (K : Frag) : Sp := fun vs H Q _ => ∃ (a : Addr) (bs : List Int), vs = [.ref a] ∧ SqL K H a (bs.map V.int) ∧ bs.length ≤ 5 ∧ (∀ i, i < bs.length → bs.getD i 0 ≤ i) ∧ Q (.str (tx (textOfBefore bs))) H
theorem tob_inv (bs : List Int) (i : Nat) : (rf i (tobStep bs) ([97], 1)).1.length = i + 1 ∧ (rf i (tobStep bs) ([97], 1)).2 ≤ i + 1 := by
  induction i with
  | zero => exact ⟨rfl, Nat.le_refl _⟩
  | succ n ih =>
    rw [rf_succ]
    obtain ⟨h1, h2⟩ := ih
    unfold tobStep
    split
    · refine ⟨?_, ?_⟩
      · rw [List.length_append]; simp only [List.length_singleton]; exact congrArg (· + 1) h1
      · show _ + 1 ≤ _; exact Nat.succ_le_succ h2
    · refine ⟨?_, ?_⟩
      · rw [List.length_append]; simp only [List.length_singleton]; exact congrArg (· + 1) h1
      · show _ ≤ _; exact Nat.le_succ_of_le h2
theorem sc_text_of_before : FnScope ["before", "text", "used", "nearest"] ["before"] (defScope s_text_of_before) := ⟨rfl, rfl, rfl, by decide +kernel, rfl, by decide +kernel, by decide +kernel⟩
theorem b_text_of_before {K : Frag} {mg : Str → Option Value} (c : Wd K mg) : Binds K (fdOf K (gA K "text_of_before")) ["before"] [] := c.f_text_of_before.binds (fun _ _ _ _ _ _ us hl => match us, hl with | [_], _ => rfl)
theorem ok_text_of_before {P : Program} {w : World} {K : Frag} {mg : Str → Option Value} {base : Heap} (c : Wd K mg) : FnOk P w K mg base (L2.CX P w) 1 (gA K "text_of_before") (fdOf K (gA K "text_of_before")) ["before"] (sp_text_of_before K) := by
  refine c.f_text_of_before.okX sc_text_of_before (fun vs H Q E h => ?_) (fun cdv A outer s H vs Q E hr h => ⟨_, PSs.nox (pss_cons (ps_set (i := 1) sc_text_of_before.nd rfl (Or.inl rfl) (pe_ix ix_str (pe_txt rfl c.k_LETTERS_coatrules) pe_int (fun _ _ => rfl)))
      (pss_cons (ps_set (i := 2) sc_text_of_before.nd rfl (Or.inl rfl) pe_int)
      (pss_cons (ps_for PassesOwn.never rfl (pi_list (pv 0)) (pg_name (i := 3) sc_text_of_before.nd rfl (Or.inl rfl)) (pss_one (ps_if (pt_cmpR op_lt (pv 3) pe_int (nomark _)) (pss_cons (ps_set (i := 1) sc_text_of_before.nd rfl (Or.inl rfl) (pe_op op_addS (pv 1) (pe_ix ix_str (pe_txt rfl c.k_LETTERS_coatrules) (pv 2) (fun _ _ => rfl))))
      (pss_one (ps_set (i := 2) sc_text_of_before.nd rfl (Or.inl rfl) (pe_op op_add (pv 2) pe_int)))) (pss_one (ps_set (i := 1) sc_text_of_before.nd rfl (Or.inl rfl) (pe_op op_addS (pv 1) (pe_ix ix_str (pv 1) (pv 3) (fun _ _ => rfl))))))))
      (pss_one (ps_ret (pv 1)))))), ?_⟩)
  · obtain ⟨a, bs, rfl, hS, hsz, hb, hQ⟩ := h
    rfl
  obtain ⟨a, bs, rfl, hS, hsz, hb, hQ⟩ := h
  walk_at "wp"
  refine ix_abc 0 rfl (by omega) ?_
  walk_at "wp"
  refine ⟨⟨_, hS⟩, lp_list (fun i σ' H' => ∃ x, σ' = [some (.ref a), some (.str (tx (rf i (tobStep bs) ([97], 1)).1)), some (.int ((rf i (tobStep bs) ([97], 1)).2 : Int)), x] ∧ H' = H) ⟨_, rfl, rfl⟩ (fun i σ' H' _ ⟨_, _, e⟩ => by rw [e]; exact hS) ?_ ?_⟩
  · rintro i v σ' H' hi hv ⟨x, rfl, rfl⟩
    rw [List.length_map] at hi
    rw [List.getElem?_map, List.getElem?_eq_getElem hi] at hv
    simp only [Option.map_some, Option.some.injEq] at hv
    subst hv
    have hg : bs.getD i 0 = bs[i] := by rw [List.getD_eq_getElem?_getD, List.getElem?_eq_getElem hi]; rfl
    obtain ⟨i1, i2⟩ := tob_inv bs i
    have hbi := hb i hi
    walk_at "wp"
    split <;> rename_i h
    · refine ix_abc _ rfl (by omega) ?_
      walk_at "wp"
      refine ⟨szI (by simp; omega), ?_⟩
      rw [rf_succ]
      have e : tobStep bs (rf i (tobStep bs) ([97], 1)) i = ((rf i (tobStep bs) ([97], 1)).1 ++ [97 + (rf i (tobStep bs) ([97], 1)).2], (rf i (tobStep bs) ([97], 1)).2 + 1) := by
        show (if _ then _ else _) = _
        rw [hg, if_pos h]
      rw [e]
      exact ⟨rfl, by simp⟩
    · refine ixS_t bs[i].toNat (by omega) (by omega) (by omega) ?_
      walk_at "wp"
      refine ⟨szI (by simp; omega), ?_⟩
      rw [rf_succ]
      have e : tobStep bs (rf i (tobStep bs) ([97], 1)) i = ((rf i (tobStep bs) ([97], 1)).1 ++ [(rf i (tobStep bs) ([97], 1)).1.getD bs[i].toNat 0], (rf i (tobStep bs) ([97], 1)).2) := by
        show (if _ then _ else _) = _
        rw [hg, if_neg h]
      rw [e]
      exact ⟨rfl, rfl⟩
  · rintro σ' H' ⟨x, rfl, rfl⟩
    walk_at "wp"
    rw [List.length_map]
    exact hQ
def sp_step_before (K : Frag) : Sp := fun vs H Q _ => ∃ (a b : Addr) (bs st : List Int), vs = [.ref a, .ref b] ∧ SqL K H a (bs.map V.int) ∧ SqL K H b (st.map V.int) ∧ bs.length ≤ 100 ∧ ∀ p H', H p = none → Ex H H' → H' p = some (.lst ((stepBefore bs st).map V.int)) → Q (.ref p) H'
theorem sb_len (bs st : List Int) (i : Nat) : (rf i (sbStep bs st) (-1, [])).2.length = i := by
  induction i with
  | zero => rfl
  | succ n ih =>
    rw [rf_succ]
    unfold sbStep
    split
    · show (_ ++ [_]).length = _; rw [List.length_append]; exact congrArg (· + 1) ih
    · show (_ ++ [_]).length = _; rw [List.length_append]; exact congrArg (· + 1) ih
theorem sc_step_before : FnScope ["before", "stands", "held", "changed", "place", "nearest"] ["before", "stands"] (defScope s_step_before) := ⟨rfl, rfl, rfl, by decide +kernel, rfl, by decide +kernel, by decide +kernel⟩
theorem b_step_before {K : Frag} {mg : Str → Option Value} (c : Wd K mg) : Binds K (fdOf K (gA K "step_before")) ["before", "stands"] [] := c.f_step_before.binds (fun _ _ _ _ _ _ us hl => match us, hl with | [_, _], _ => rfl)
theorem ok_step_before {P : Program} {w : World} {K : Frag} {mg : Str → Option Value} {base : Heap} (c : Wd K mg) : FnOk P w K mg base (L2.CX P w) 1 (gA K "step_before") (fdOf K (gA K "step_before")) ["before", "stands"] (sp_step_before K) := by
  refine c.f_step_before.okX sc_step_before (fun vs H Q E h => ?_) (fun cdv A outer s H vs Q E hr h => ⟨_, PSs.nox (pss_cons (ps_set (i := 2) sc_step_before.nd rfl (Or.inl rfl) (pe_un un_neg pe_int))
      (pss_cons (ps_set (i := 3) sc_step_before.nd rfl (Or.inl rfl) (pe_lst pa_nil))
      (pss_cons (ps_for PassesOwn.never rfl (pi_enum (by rfl) c.z_enumerate (pa_cons (pv 0) pa_nil)) (pg_tup (n := 2) rfl (pgs_cons (pg_name (i := 4) sc_step_before.nd rfl (Or.inl rfl)) (pgs_cons (pg_name (i := 5) sc_step_before.nd rfl (Or.inl rfl)) pgs_nil))) (pss_one (ps_if (PW.pt (pw_or (pt_cmpR op_in_seq (pv 4) (pv 1) rfl) (pw_or1 (pt_cmpR op_lt (pv 5) (pv 2) (nomark _))))) (pss_cons (ps_expr (pe_bm PySem.F.plainAttrs_list PySem.F.slot_list_append PySem.F.type_list_append mt_append (pv 3) (pa_cons (pv 2) pa_nil)))
      (pss_one (ps_set (i := 2) sc_step_before.nd rfl (Or.inl rfl) (pv 5)))) (pss_one (ps_expr (pe_bm PySem.F.plainAttrs_list PySem.F.slot_list_append PySem.F.type_list_append mt_append (pv 3) (pa_cons (pv 5) pa_nil)))))))
      (pss_one (ps_ret (pv 3)))))), ?_⟩)
  · obtain ⟨a, b, bs, st, rfl, hS, hT, hsz, hQ⟩ := h
    rfl
  obtain ⟨a, b, bs, st, rfl, hS, hT, hsz, hQ⟩ := h
  walk_at "wp"
  refine ⟨szI, fun p hp => ⟨⟨_, Evl.ex_l (Evl.Ex.new hp) hS⟩, ?_⟩⟩
  refine lp_it walk_enum (fun i σ' H' => ∃ x y, σ' = [some (.ref a), some (.ref b), some (.int (rf i (sbStep bs st) (-1, [])).1), some (.ref p), x, y] ∧ Ex H H' ∧ H' p = some (.lst ((rf i (sbStep bs st) (-1, [])).2.map V.int))) ⟨_, _, rfl, Evl.Ex.new hp, upd_same⟩ (fun i σ' H' _ ⟨_, _, _, e, _⟩ => Evl.ex_l e hS) ?_ ?_
  · rintro i v σ' H1 H' hi ⟨x, y, rfl, hx, hl⟩ ⟨T, u1, u2, rfl, hT0, rfl, e1, e2⟩
    rw [List.length_map] at hi
    cases e1
    have e2 : (bs.map V.int)[i]? = some u2 := e2
    rw [List.getElem?_map, List.getElem?_eq_getElem hi] at e2
    simp only [Option.map_some, Option.some.injEq] at e2
    subst e2
    have hg : bs.getD i 0 = bs[i] := by rw [List.getD_eq_getElem?_getD, List.getElem?_eq_getElem hi]; rfl
    have hx2 : Ex H1 (upd H1 T (.tup [.int i, .int bs[i]])) := Evl.Ex.new hT0
    have hlen := sb_len bs st i
    walk_at "wp"
    refine ⟨_, Evl.st_of upd_same, ?_⟩
    walk_at "wp"
    refine in_int (Evl.ex_l (hx.trans hx2) hT) ?_
    walk_at "wp"
    have hl2 := hx2 _ _ hl
    have fin : ∀ v w : Int, sbStep bs st (rf i (sbStep bs st) (-1, [])) i = (w, (rf i (sbStep bs st) (-1, [])).2 ++ [v]) → w = (rf (i + 1) (sbStep bs st) (-1, [])).1 ∧ Ex H (upd (upd H1 T (.tup [.int i, .int bs[i]])) p (.lst ((rf i (sbStep bs st) (-1, [])).2.map V.int ++ [.int v]))) ∧
        upd (upd H1 T (.tup [.int i, .int bs[i]])) p (.lst ((rf i (sbStep bs st) (-1, [])).2.map V.int ++ [.int v])) p = some (.lst ((rf (i + 1) (sbStep bs st) (-1, [])).2.map V.int)) := by
      intro v w e
      rw [rf_succ, e]
      exact ⟨rfl, (hx.trans hx2).mut hp, by rw [upd_same]; simp⟩
    have hS1 : (rf i (sbStep bs st) (-1, [])).2.length < 100000 := by omega
    have hS2 : ((rf i (sbStep bs st) (-1, [])).2.map V.int).length < 100000 := by rw [List.length_map]; exact hS1
    split <;> rename_i h
    · exact ⟨tyL hl2, app_ok hl2 hS2 (fin _ _ (by show (if _ then _ else _) = _; rw [hg, if_pos (.inl h)]))⟩
    · split <;> rename_i h2
      · exact ⟨tyL hl2, app_ok hl2 hS2 (fin _ _ (by show (if _ then _ else _) = _; rw [hg, if_pos (.inr h2)]))⟩
      · exact ⟨tyL hl2, app_ok hl2 hS2 (fin _ _ (by show (if _ then _ else _) = _; rw [hg, if_neg (fun z => z.elim h h2)]))⟩
  · rintro σ' H' ⟨x, y, rfl, hx, hl⟩
    walk_at "wp"
    rw [List.length_map] at hl
    exact hQ p H' hp hx hl
end DR

set_option Elab.async false
set_option linter.all false
set_option maxRecDepth 100000
set_option maxHeartbeats 4000000
namespace DR
open PySem PySem.Spec PyProof.Rows L2
open PySem.W (Frag)
local macro_rules
  | `(tactic| walk_at "wp") => `(tactic| try simp only [L2.start, List.map_cons, List.map_nil, List.length_cons, List.length_nil, List.replicate, Nat.reduceAdd, Nat.reduceSub, List.cons_append, List.nil_append, List.append_nil, List.set_cons_succ, List.set_cons_zero,
      List.getElem?_cons_succ, List.getElem?_cons_zero, ap_K1, ap_K2, ap_seq, ap_next, ap_asg, ap_name, ap_ret, ap_retN, ap_drop, ap_ifS, ap_c, ap_var, ap_op, ap_un, ap_chain, ap_test, ap_B, ap_and, ap_or, ap_not, ap_yes, ap_andV, ap_orV, ap_notV, ap_if, ap_nil, ap_cons, ap_cb, ap_lst, ap_tup, ap_bm, ap_bm0, ap_m1, ap_call, ap_sl, ap_part, ap_nopart, ap_rI0, ap_rI, ap_rU, ap_eqI, ap_neI, ap_eqS, ap_neS, ap_eqB, ap_neB, ap_fld, ap_tup_, ap_gcons, ap_gnil, ap_gsub, ap_for, ap_lc, ap_rng1, ap_rng2, ap_list, ap_itup, ap_str, ap_enum, ap_zip, ap_inSg, ap_ninSg, ap_addS, ap_sfld, ap_meth, ap_prop, ap_make, ap_smeth, ap_never, ap_ost, ap_callS, ap_mko, ap_enumS, ap_zipS, ap_rng3, ap_listRg, ap_rg1, ap_cval, len_abcdef, exists_and_left, exists_and_right, exists_eq_left', and_assoc, exists_eq_left, exists_eq, exists_eq', Option.some.injEq, V.int.injEq, V.str.injEq, V.ref.injEq, V.bl.injEq, V.ty.injEq, List.cons.injEq, and_true, true_and, decide_eq_true_eq, Bool.not_eq_true', decide_eq_false_iff_not, Bool.false_eq_true, if_true, if_false, reduceCtorEq, false_and, and_false, or_false, false_or, or_true, true_or, not_true_eq_false, not_false_eq_true, Int.zero_add, lit_nil, lit_a, tx_len, one_tx, tx_app, tx_inj, exists_const, forall_const])
  | `(tactic| walk_at "om") => `(tactic| repeat (refine ⟨by first | omega | exact szI, ?_⟩))

theorem pbRow_len (r1 r2 : List (List Int)) (n g : Nat) : (pbRow r1 r2 n g).length = n - g := mapr_len
def sp_product_before (K : Frag) : Sp := fun vs H Q _ => ∃ (a b : Addr) (xs ys : List Int), vs = [.ref a, .ref b] ∧ SqT K H a (xs.map V.int) ∧ SqT K H b (ys.map V.int) ∧ xs.length = ys.length ∧ xs.length ≤ 50 ∧ ∀ p H', H p = none → Ex H H' → H' p = some (.lst ((productBefore xs ys).map V.int)) → Q (.ref p) H'
theorem sc_product_before : FnScope ["first", "second", "ones", "others", "rows", "begin", "row", "end", "best", "cut", "both"] ["first", "second"] (defScope s_product_before) := ⟨rfl, rfl, rfl, by decide +kernel, rfl, by decide +kernel, by decide +kernel⟩
theorem b_product_before {K : Frag} {mg : Str → Option Value} (c : Wd K mg) : Binds K (fdOf K (gA K "product_before")) ["first", "second"] [] := c.f_product_before.binds (fun _ _ _ _ _ _ us hl => match us, hl with | [_, _], _ => rfl)
theorem ok_product_before {P : Program} {w : World} {K : Frag} {mg : Str → Option Value} {base : Heap} (c : Wd K mg) : FnOk P w K mg base (L2.CX P w) 2 (gA K "product_before") (fdOf K (gA K "product_before")) ["first", "second"] (sp_product_before K) := by
  refine c.f_product_before.okX sc_product_before (fun vs H Q E h => ?_) (fun cdv A outer s H vs Q E hr h => ⟨_, PSs.nox (pss_cons (ps_set (i := 2) sc_product_before.nd rfl (Or.inl rfl) (pe_call (ok_count_rows c) (hr.mono (by decide)) rfl c.g_count_rows c.f_count_rows.kp (b_count_rows c) .nil passL (pa_cons (pv 0) pa_nil)))
      (pss_cons (ps_set (i := 3) sc_product_before.nd rfl (Or.inl rfl) (pe_call (ok_count_rows c) (hr.mono (by decide)) rfl c.g_count_rows c.f_count_rows.kp (b_count_rows c) .nil passL (pa_cons (pv 1) pa_nil)))
      (pss_cons (ps_set (i := 4) sc_product_before.nd rfl (Or.inl rfl) (pe_lst pa_nil))
      (pss_cons (ps_for PassesOwn.never rfl (pi_range1 rfl c.z_range (pa_cons (pe_callB call_lenV (by rfl) c.z_len (by decide +kernel) (pa_cons (pv 2) pa_nil)) pa_nil)) (pg_name (i := 5) sc_product_before.nd rfl (Or.inl rfl)) (pss_cons (ps_set (i := 6) sc_product_before.nd rfl (Or.inl rfl) (pe_lst pa_nil))
      (pss_cons (ps_for PassesOwn.never rfl (pi_range2 rfl c.z_range (pa_cons (pv 5) (pa_cons (pe_callB call_lenV (by rfl) c.z_len (by decide +kernel) (pa_cons (pv 2) pa_nil)) pa_nil))) (pg_name (i := 7) sc_product_before.nd rfl (Or.inl rfl)) (pss_cons (ps_set (i := 8) sc_product_before.nd rfl (Or.inl rfl) pe_int)
      (pss_cons (ps_for PassesOwn.never rfl (pi_range2 rfl c.z_range (pa_cons (pv 5) (pa_cons (pe_op op_add (pv 7) pe_int) pa_nil))) (pg_name (i := 9) sc_product_before.nd rfl (Or.inl rfl)) (pss_cons (ps_set (i := 10) sc_product_before.nd rfl (Or.inl rfl) (pe_op op_add (pe_ix ix_list (pe_ix ix_list (pv 2) (pv 5) (fun _ _ => rfl)) (pe_op op_sub (pv 9) (pv 5)) (fun _ _ => rfl)) (pe_ix ix_list (pe_ix ix_list (pv 3) (pv 9) (fun _ _ => rfl)) (pe_op op_sub (pv 7) (pv 9)) (fun _ _ => rfl))))
      (pss_one (ps_if (pt_cmpR op_gt (pv 10) (pv 8) (nomark _)) (pss_one (ps_set (i := 8) sc_product_before.nd rfl (Or.inl rfl) (pv 10))) pss_nil))))
      (pss_one (ps_expr (pe_bm PySem.F.plainAttrs_list PySem.F.slot_list_append PySem.F.type_list_append mt_append (pv 6) (pa_cons (pv 8) pa_nil)))))))
      (pss_one (ps_expr (pe_bm PySem.F.plainAttrs_list PySem.F.slot_list_append PySem.F.type_list_append mt_append (pv 4) (pa_cons (pv 6) pa_nil)))))))
      (pss_one (ps_ret (pe_call (ok_before_of_rows c) (hr.mono (by decide)) rfl c.g_before_of_rows c.f_before_of_rows.kp (b_before_of_rows c) .nil passL (pa_cons (pv 4) pa_nil)))))))), ?_⟩)
  · obtain ⟨a, b, xs, ys, rfl, hA, hB, hl, hsz, hQ⟩ := h
    rfl
  obtain ⟨a, b, xs, ys, rfl, hA, hB, hl, hsz, hQ⟩ := h
  walk_at "wp"
  refine ⟨a, xs, rfl, hA, by omega, fun p1 H1 hp1 hx1 hL1 => ?_⟩
  refine ⟨b, ys, rfl, Evl.ex_t hx1 hB, by omega, fun p2 H2 hp2 hx2 hL2 => ?_⟩
  walk_at "wp"
  refine ⟨szI, fun p hp => ?_⟩
  have hL1' := hL1.mono (hx2.trans (Evl.Ex.new (o := .lst []) hp))
  have hL2' := hL2.mono (Evl.Ex.new (o := .lst []) hp)
  obtain ⟨vs, hv1, hv2, _⟩ := hL1'.seq (K := K)
  have hvl : vs.length = xs.length + 1 := by rw [hv2, countRows_len]
  refine len_l hv1 rfl ?_
  walk_at "wp"
  walk_at "om"
  refine lp_rng (fun i σ' H' => ∃ x y z w u v, σ' = [some (.ref a), some (.ref b), some (.ref p1), some (.ref p2), some (.ref p), x, y, z, w, u, v] ∧ Ex H2 H' ∧ LL H' p (mapr i (pbRow (countRows xs) (countRows ys) (xs.length + 1)))) ⟨_, _, _, _, _, _, rfl, Evl.Ex.new hp, LL.nil⟩ ?_ ?_
  · rintro i σ' H' hi ⟨x, y, z, w, u, v, rfl, hx, hL⟩
    walk_at "wp"
    refine ⟨szI, fun q hq => ?_⟩
    have hM1 := (hL1.mono (hx2.trans hx)).mono (Evl.Ex.new (o := .lst []) hq)
    have hM2 := (hL2.mono hx).mono (Evl.Ex.new (o := .lst []) hq)
    obtain ⟨vs', hw1, hw2, _⟩ := hM1.seq (K := K)
    have hwl : vs'.length = xs.length + 1 := by rw [hw2, countRows_len]
    refine len_l hw1 rfl ?_
    walk_at "wp"
    walk_at "om"
    refine lp_rng (fun j σ' H3 => ∃ z w u v, σ' = [some (.ref a), some (.ref b), some (.ref p1), some (.ref p2), some (.ref p), some (.int (i : Int)), some (.ref q), z, w, u, v] ∧ Ex H' H3 ∧ H3 q = some (.lst ((mapr j (pbBest (countRows xs) (countRows ys) i)).map V.int))) ⟨_, _, _, _, rfl, Evl.Ex.new hq, upd_same⟩ ?_ ?_
    · rintro j σ' H3 hj ⟨z, w, u, v, rfl, hx3, hq3⟩
      walk_at "wp"
      walk_at "om"
      refine lp_rng (fun k σ' H4 => ∃ u v, σ' = [some (.ref a), some (.ref b), some (.ref p1), some (.ref p2), some (.ref p), some (.int (i : Int)), some (.ref q), some (.int ((i : Int) + j)),
        some (.int (rf k (fun best c => if at2 (countRows xs) i c + at2 (countRows ys) (i + c) (j - c) > best then at2 (countRows xs) i c + at2 (countRows ys) (i + c) (j - c) else best) 0)), u, v] ∧ H4 = H3) ⟨_, _, rfl, rfl⟩ ?_ ?_
      · rintro k σ' H4 hk ⟨u, v, rfl, rfl⟩
        walk_at "wp"
        have hN1 := (hL1.mono (hx2.trans hx)).mono hx3
        have hN2 := (hL2.mono hx).mono hx3
        have e1 := countRows_row xs i (by omega)
        have e2 := countRows_row ys (i + k) (by omega)
        refine ixL_row i hN1 rfl (by rw [countRows_len]; omega) fun r1 hr1 => ?_
        walk_at "wp"
        refine ixL_i k hr1 (by omega) (by omega) ?_
        refine ixL_row (i + k) hN2 (by omega) (by rw [countRows_len]; omega) fun r2 hr2 => ?_
        walk_at "wp"
        refine ixL_i (j - k) hr2 (by omega) (by omega) ?_
        walk_at "wp"
        split <;> rename_i h
        · rw [rf_succ]; exact (if_pos h).symm
        · rw [rf_succ]; exact (if_neg h).symm
      · rintro σ' H4 ⟨u, v, rfl, rfl⟩
        walk_at "wp"
        refine ⟨tyL hq3, app_ok hq3 (by rw [List.length_map, mapr_len]; omega) ?_⟩
        refine ⟨hx3.mut hq, ?_⟩
        rw [upd_same, mapr_succ, List.map_append, show ((i : Int) + j + 1 - i).toNat = j + 1 by omega] <;> rfl
    · rintro σ' H3 ⟨z, w, u, v, rfl, hx3, hq3⟩
      walk_at "wp"
      have hL3 := hL.mono hx3
      obtain ⟨as, ha, hb⟩ := id hL3
      refine ⟨tyL ha, app_ok ha (by rw [List.length_map, hb.1, mapr_len]; omega) ?_⟩
      refine ⟨(hx.trans hx3).mut hp, ?_⟩
      rw [mapr_succ]
      refine hL3.push ha (by rw [hq3, show ((vs'.length : Int) - i).toNat = xs.length + 1 - i by omega]; rfl) ?_
      rintro rfl
      obtain ⟨bs', hb', _⟩ := hL
      rw [hq] at hb'
      cases hb'
  · rintro σ' H' ⟨x, y, z, w, u, v, rfl, hx, hL⟩
    walk_at "wp"
    rw [show ((vs.length : Int)).toNat = xs.length + 1 by omega] at hL
    refine ⟨p, _, rfl, hL, by rw [mapr_len]; omega, fun b hb => ?_, fun p' H'' hp' hx' hp'' => ?_⟩
    · rw [mapr_len] at hb ⊢
      rw [mapr_get hb, pbRow_len]
      exact Nat.le_refl _
    · exact hQ p' H'' (Evl.fresh_back ((hx1.trans hx2).trans hx) hp') (((hx1.trans hx2).trans hx).trans hx') hp''
def sp_law_coat_text (K : Frag) : Sp := fun vs H Q _ => ∃ (a : Addr) (rows : List (List Int)), vs = [.ref a] ∧ LL H a rows ∧ rows.length ≤ 6 ∧ (∀ b, b < rows.length → rows.length - b ≤ (rows.getD b []).length) ∧ Q (.str (tx (lawCoatText rows))) H
theorem lct_inv (rows : List (List Int)) (i : Nat) : (rf i (lctStep rows) ([], 0)).1.length = i ∧ (rf i (lctStep rows) ([], 0)).2 ≤ i := by
  induction i with
  | zero => exact ⟨rfl, Nat.le_refl _⟩
  | succ n ih =>
    rw [rf_succ]
    obtain ⟨h1, h2⟩ := ih
    have h3 : ∀ t g, lctLetter rows t g = [] ∨ ∃ c, lctLetter rows t g = [c] := by
      intro t g
      unfold lctLetter
      have : ∀ n, rf n (fun l o => if at2 rows o (g - o) = at2 rows o (g - o - 1) then [t.getD o 0] else l) ([] : List Nat) = [] ∨ ∃ c, rf n (fun l o => if at2 rows o (g - o) = at2 rows o (g - o - 1) then [t.getD o 0] else l) ([] : List Nat) = [c] := by
        intro n
        induction n with
        | zero => exact .inl rfl
        | succ n ih =>
          rw [rf_succ]
          split
          · exact .inr ⟨_, rfl⟩
          · exact ih
      exact this g
    unfold lctStep
    split
    · refine ⟨?_, ?_⟩
      · rw [List.length_append]; exact congrArg (· + 1) h1
      · exact Nat.succ_le_succ h2
    · rename_i hne
      rcases h3 (rf n (lctStep rows) ([], 0)).1 n with h | ⟨c, h⟩
      · exact absurd h hne
      · refine ⟨?_, ?_⟩
        · show List.length ((rf n (lctStep rows) ([], 0)).1 ++ lctLetter rows (rf n (lctStep rows) ([], 0)).1 n) = _
          rw [h, List.length_append]; exact congrArg (· + 1) h1
        · exact Nat.le_succ_of_le h2
theorem sc_law_coat_text : FnScope ["_law_table", "_law_text", "_law_fresh", "_law_gap", "_law_letter", "_law_old", "_law_row"] ["_law_table"] (defScope s_law_coat_text) := ⟨rfl, rfl, rfl, by decide +kernel, rfl, by decide +kernel, by decide +kernel⟩
theorem b_law_coat_text {K : Frag} {mg : Str → Option Value} (c : Wd K mg) : Binds K (fdOf K (gA K "_law_coat_text")) ["_law_table"] [] := c.f_law_coat_text.binds (fun _ _ _ _ _ _ us hl => match us, hl with | [_], _ => rfl)
theorem ok_law_coat_text {P : Program} {w : World} {K : Frag} {mg : Str → Option Value} {base : Heap} (c : Wd K mg) : FnOk P w K mg base (L2.CX P w) 1 (gA K "_law_coat_text") (fdOf K (gA K "_law_coat_text")) ["_law_table"] (sp_law_coat_text K) := by
  refine c.f_law_coat_text.okX sc_law_coat_text (fun vs H Q E h => ?_) (fun cdv A outer s H vs Q E hr h => ⟨_, PSs.nox (pss_cons (ps_set (i := 1) sc_law_coat_text.nd rfl (Or.inl rfl) pe_str)
      (pss_cons (ps_set (i := 2) sc_law_coat_text.nd rfl (Or.inl rfl) pe_int)
      (pss_cons (ps_for PassesOwn.never rfl (pi_range1 rfl c.z_range (pa_cons (pe_callB call_lenV (by rfl) c.z_len (by decide +kernel) (pa_cons (pv 0) pa_nil)) pa_nil)) (pg_name (i := 3) sc_law_coat_text.nd rfl (Or.inl rfl)) (pss_cons (ps_set (i := 4) sc_law_coat_text.nd rfl (Or.inl rfl) pe_str)
      (pss_cons (ps_for PassesOwn.never rfl (pi_range1 rfl c.z_range (pa_cons (pv 3) pa_nil)) (pg_name (i := 5) sc_law_coat_text.nd rfl (Or.inl rfl)) (pss_cons (ps_set (i := 6) sc_law_coat_text.nd rfl (Or.inl rfl) (pe_ix ix_list (pv 0) (pv 5) (fun _ _ => rfl)))
      (pss_one (ps_if (pt_cmpR op_eq (pe_ix ix_list (pv 6) (pe_op op_sub (pv 3) (pv 5)) (fun _ _ => rfl)) (pe_ix ix_list (pv 6) (pe_op op_sub (pe_op op_sub (pv 3) (pv 5)) pe_int) (fun _ _ => rfl)) (nomark _)) (pss_one (ps_set (i := 4) sc_law_coat_text.nd rfl (Or.inl rfl) (pe_ix ix_str (pv 1) (pv 5) (fun _ _ => rfl)))) pss_nil))))
      (pss_cons (ps_if (pt_cmpR op_eq (pv 4) pe_str (nomark _)) (pss_cons (ps_set (i := 4) sc_law_coat_text.nd rfl (Or.inl rfl) (pe_ix ix_str pe_str (pv 2) (fun _ _ => rfl)))
      (pss_one (ps_set (i := 2) sc_law_coat_text.nd rfl (Or.inl rfl) (pe_op op_add (pv 2) pe_int)))) pss_nil)
      (pss_one (ps_set (i := 1) sc_law_coat_text.nd rfl (Or.inl rfl) (pe_op op_addS (pv 1) (pv 4))))))))
      (pss_one (ps_ret (pv 1)))))), ?_⟩)
  · obtain ⟨a, rows, rfl, hL, hsz, hrow, hQ⟩ := h
    rfl
  obtain ⟨a, rows, rfl, hL, hsz, hrow, hQ⟩ := h
  obtain ⟨vs, hv1, hv2, _⟩ := hL.seq (K := K)
  walk_at "wp"
  refine len_l hv1 rfl ?_
  walk_at "wp"
  walk_at "om"
  refine lp_rng (fun i σ' H' => ∃ x y z w, σ' = [some (.ref a), some (.str (tx (rf i (lctStep rows) ([], 0)).1)), some (.int ((rf i (lctStep rows) ([], 0)).2 : Int)), x, y, z, w] ∧ H' = H) ⟨_, _, _, _, rfl, rfl⟩ ?_ ?_
  · rintro i σ' H' hi ⟨x, y, z, w, rfl, rfl⟩
    obtain ⟨i1, i2⟩ := lct_inv rows i
    walk_at "wp"
    walk_at "om"
    refine lp_rng (fun j σ' H2 => ∃ z w, σ' = [some (.ref a), some (.str (tx (rf i (lctStep rows) ([], 0)).1)), some (.int ((rf i (lctStep rows) ([], 0)).2 : Int)), some (.int (i : Int)),
      some (.str (tx (rf j (fun l o => if at2 rows o (i - o) = at2 rows o (i - o - 1) then [(rf i (lctStep rows) ([], 0)).1.getD o 0] else l) []))), z, w] ∧ H2 = H') ⟨_, _, rfl, rfl⟩ ?_ ?_
    · rintro j σ' H2 hj ⟨z, w, rfl, rfl⟩
      walk_at "wp"
      have hb := hrow j (by omega)
      refine ixL_row j hL rfl (by omega) fun r hr => ?_
      walk_at "wp"
      refine ixL_i (i - j) hr (by omega) (by omega) ?_
      refine ixL_i (i - j - 1) hr (by omega) (by omega) ?_
      walk_at "wp"
      split <;> rename_i h
      · refine ixS_t j rfl (by omega) (by omega) ?_
        walk_at "wp"
        rw [rf_succ]; exact (if_pos h).symm
      · rw [rf_succ]; exact (if_neg h).symm
    · rintro σ' H2 ⟨z, w, rfl, rfl⟩
      walk_at "wp"
      have e : rf (i : Int).toNat (fun l o => if at2 rows o (i - o) = at2 rows o (i - o - 1) then [(rf i (lctStep rows) ([], 0)).1.getD o 0] else l) [] = lctLetter rows (rf i (lctStep rows) ([], 0)).1 i := rfl
      rw [e]
      split <;> rename_i h
      · refine ix_abc _ rfl (by omega) ?_
        walk_at "wp"
        refine ⟨szI (by simp; omega), ?_⟩
        have e2 : rf (i + 1) (lctStep rows) ([], 0) = ((rf i (lctStep rows) ([], 0)).1 ++ [97 + (rf i (lctStep rows) ([], 0)).2], (rf i (lctStep rows) ([], 0)).2 + 1) := by rw [rf_succ]; exact if_pos h
        rw [e2]
        exact ⟨rfl, by simp⟩
      · have e2 : rf (i + 1) (lctStep rows) ([], 0) = ((rf i (lctStep rows) ([], 0)).1 ++ lctLetter rows (rf i (lctStep rows) ([], 0)).1 i, (rf i (lctStep rows) ([], 0)).2) := by rw [rf_succ]; exact if_neg h
        have e3 := (lct_inv rows (i + 1)).1
        rw [e2] at e3
        refine ⟨szI (by rw [List.length_append] at e3; omega), ?_⟩
        rw [e2]
        exact ⟨rfl, rfl⟩
  · rintro σ' H' ⟨x, y, z, w, rfl, rfl⟩
    walk_at "wp"
    rw [show ((vs.length : Int)).toNat = rows.length by omega]
    exact hQ
end DR

set_option Elab.async false
set_option linter.all false
set_option maxRecDepth 100000
set_option maxHeartbeats 4000000
namespace DR
open PySem PySem.Spec PyProof.Rows L2
open PySem.W (Frag)
local macro_rules
  | `(tactic| walk_at "wp") => `(tactic| try simp only [L2.start, List.map_cons, List.map_nil, List.length_cons, List.length_nil, List.replicate, Nat.reduceAdd, Nat.reduceSub, List.cons_append, List.nil_append, List.append_nil, List.set_cons_succ, List.set_cons_zero,
      List.getElem?_cons_succ, List.getElem?_cons_zero, ap_K1, ap_K2, ap_seq, ap_next, ap_asg, ap_name, ap_ret, ap_retN, ap_drop, ap_ifS, ap_c, ap_var, ap_op, ap_un, ap_chain, ap_test, ap_B, ap_and, ap_or, ap_not, ap_yes, ap_andV, ap_orV, ap_notV, ap_if, ap_nil, ap_cons, ap_cb, ap_lst, ap_tup, ap_bm, ap_bm0, ap_m1, ap_call, ap_sl, ap_part, ap_nopart, ap_rI0, ap_rI, ap_rU, ap_eqI, ap_neI, ap_eqS, ap_neS, ap_eqB, ap_neB, ap_fld, ap_tup_, ap_gcons, ap_gnil, ap_gsub, ap_for, ap_lc, ap_rng1, ap_rng2, ap_list, ap_itup, ap_str, ap_enum, ap_zip, ap_inSg, ap_ninSg, ap_addS, ap_sfld, ap_meth, ap_prop, ap_make, ap_smeth, ap_never, ap_ost, ap_callS, ap_mko, ap_enumS, ap_zipS, ap_rng3, ap_listRg, ap_rg1, ap_cval, len_abcdef, exists_and_left, exists_and_right, exists_eq_left', and_assoc, exists_eq_left, exists_eq, exists_eq', Option.some.injEq, V.int.injEq, V.str.injEq, V.ref.injEq, V.bl.injEq, V.ty.injEq, List.cons.injEq, and_true, true_and, decide_eq_true_eq, Bool.not_eq_true', decide_eq_false_iff_not, Bool.false_eq_true, if_true, if_false, reduceCtorEq, false_and, and_false, or_false, false_or, or_true, true_or, not_true_eq_false, not_false_eq_true, Int.zero_add, lit_nil, lit_a, tx_len, one_tx, tx_app, tx_inj, exists_const, forall_const])
  | `(tactic| walk_at "om") => `(tactic| repeat (refine ⟨by first | omega | exact szI, ?_⟩))

def sp_law_colours (K : Frag) : Sp := fun vs H Q _ => ∃ (t : List Nat) (lo hi : Nat), vs = [.str (tx t), .int lo, .int hi] ∧ t.length ≤ 100 ∧ ∀ H', Ex H H' → Q (.int (colours t lo hi)) H'
theorem sc_law_colours : FnScope ["_law_text", "_law_low", "_law_high", "_law_part", "_law_k"] ["_law_text", "_law_low", "_law_high"] (defScope s_law_colours) := ⟨rfl, rfl, rfl, by decide +kernel, rfl, by decide +kernel, by decide +kernel⟩
theorem b_law_colours {K : Frag} {mg : Str → Option Value} (c : Wd K mg) : Binds K (fdOf K (gA K "_law_colours")) ["_law_text", "_law_low", "_law_high"] [] := c.f_law_colours.binds (fun _ _ _ _ _ _ us hl => match us, hl with | [_, _, _], _ => rfl)
theorem ok_law_colours {P : Program} {w : World} {K : Frag} {mg : Str → Option Value} {base : Heap} (c : Wd K mg) : FnOk P w K mg base (L2.CX P w) 1 (gA K "_law_colours") (fdOf K (gA K "_law_colours")) ["_law_text", "_law_low", "_law_high"] (sp_law_colours K) := by
  refine c.f_law_colours.okX sc_law_colours (fun vs H Q E h => ?_) (fun cdv A outer s H vs Q E hr h => ⟨_, PSs.nox (pss_cons (ps_set (i := 3) sc_law_colours.nd rfl (Or.inr rfl) (pe_slice sl_str (pv 0) (po_some (pv 1)) (po_some (pe_op op_add (pv 2) pe_int))))
      (pss_one (ps_ret (pe_op op_sub (pe_callB call_lenV (by rfl) c.z_len (by decide +kernel) (pa_cons (pe_lc (own := [("_law_k", 4)]) (g := gName 4) rfl sc_law_colours.nd (pi_range1 rfl c.z_range (pa_cons (pe_callB call_len_str (by rfl) c.z_len (by decide +kernel) (pa_cons (pv 3) pa_nil)) pa_nil)) (blkOk_by (own := [("_law_k", 4)]) (N := ["_law_text", "_law_low", "_law_high", "_law_part", "_law_k"]) (sc := defScope s_law_colours) (by decide +kernel)) (fun _ _ _ _ _ => (pg_name (i := 4) sc_law_colours.nd rfl (Or.inl rfl))) (fun _ _ _ _ _ => (pts_one (pt_cmpR op_ninSg (pe_ix ix_str (pv 3) (pv 4) (fun _ _ => rfl)) (pe_slice sl_str (pv 3) po_none (po_some (pv 4))) rfl))) (fun _ _ _ _ _ => (pv 4))) pa_nil)) pe_int)))), ?_⟩)
  · obtain ⟨t, lo, hi, rfl, hsz, hQ⟩ := h
    rfl
  obtain ⟨t, lo, hi, rfl, hsz, hQ⟩ := h
  walk_at "wp"
  refine slS_ok (by omega) ?_
  rw [cutS_tx]
  have hp : (cutN t lo hi).length ≤ t.length := by unfold cutN; simp; omega
  walk_at "wp"
  walk_at "om"
  intro D hD
  refine lc_rngF (fun k => decide (¬ (cutN t lo hi).getD k 0 ∈ (cutN t lo hi).take k)) (fun k => .int (k : Int)) (by omega) hD (fun _ => rfl) ?_ ?_ ?_
  · intro i H' hi' hx Q' q
    simp only [wipe]
    walk_at "wp"
    refine ixS_t i rfl (by omega) (by omega) ?_
    walk_at "wp"
    refine slS_ok (by omega) ?_
    rw [cutS_take]
    walk_at "wp"
    rw [← decide_not]
    exact q _ (Evl.Ex.refl _)
  · intro i H' hi' _ hx Q' q
    simp only [wipe]
    walk_at "wp"
    exact q _ (Evl.Ex.refl _)
  · intro H' hx hl
    refine len_l (Evl.sq_of hl) rfl ?_
    walk_at "wp"
    have e : ((Evl.given (((cutN t lo hi).length : Int)).toNat (fun k => decide (¬ (cutN t lo hi).getD k 0 ∈ (cutN t lo hi).take k)) (fun k => .int (k : Int))).length : Int) - 1 = colours t lo hi := by
      unfold Evl.given colours
      rw [List.length_map, Int.toNat_natCast]
    rw [e]
    exact hQ H' hx
end DR

set_option Elab.async false
set_option linter.all false
set_option maxRecDepth 100000
set_option maxHeartbeats 4000000
namespace DR
open PySem PySem.Spec PyProof.Rows L2
open PySem.W (Frag)
local macro_rules
  | `(tactic| walk_at "wp") => `(tactic| try simp only [L2.start, List.map_cons, List.map_nil, List.length_cons, List.length_nil, List.replicate, Nat.reduceAdd, Nat.reduceSub, List.cons_append, List.nil_append, List.append_nil, List.set_cons_succ, List.set_cons_zero,
      List.getElem?_cons_succ, List.getElem?_cons_zero, ap_K1, ap_K2, ap_seq, ap_next, ap_asg, ap_name, ap_ret, ap_retN, ap_drop, ap_ifS, ap_c, ap_var, ap_op, ap_un, ap_chain, ap_test, ap_B, ap_and, ap_or, ap_not, ap_yes, ap_andV, ap_orV, ap_notV, ap_if, ap_nil, ap_cons, ap_cb, ap_lst, ap_tup, ap_bm, ap_bm0, ap_m1, ap_call, ap_sl, ap_part, ap_nopart, ap_rI0, ap_rI, ap_rU, ap_eqI, ap_neI, ap_eqS, ap_neS, ap_eqB, ap_neB, ap_fld, ap_tup_, ap_gcons, ap_gnil, ap_gsub, ap_for, ap_lc, ap_rng1, ap_rng2, ap_list, ap_itup, ap_str, ap_enum, ap_zip, ap_inSg, ap_ninSg, ap_addS, ap_sfld, ap_meth, ap_prop, ap_make, ap_smeth, ap_never, ap_ost, ap_callS, ap_mko, ap_enumS, ap_zipS, ap_rng3, ap_listRg, ap_rg1, ap_cval, len_abcdef, exists_and_left, exists_and_right, exists_eq_left', and_assoc, exists_eq_left, exists_eq, exists_eq', Option.some.injEq, V.int.injEq, V.str.injEq, V.ref.injEq, V.bl.injEq, V.ty.injEq, List.cons.injEq, and_true, true_and, decide_eq_true_eq, Bool.not_eq_true', decide_eq_false_iff_not, Bool.false_eq_true, if_true, if_false, reduceCtorEq, false_and, and_false, or_false, false_or, or_true, true_or, not_true_eq_false, not_false_eq_true, Int.zero_add, lit_nil, lit_a, tx_len, one_tx, tx_app, tx_inj, exists_const, forall_const])
  | `(tactic| walk_at "om") => `(tactic| repeat (refine ⟨by first | omega | exact szI, ?_⟩))

theorem rep_0 {l : Addr} {H : Hp} {Q : VK} {k : Int} (m : Nat) (h : H l = some (.lst [.int 0])) (e : k = (m : Int)) (hm : m ≤ 1000) (q : ∀ p, H p = none → Q (.ref p) (upd H p (.lst ((List.replicate m (0 : Int)).map V.int)))) : rRep (.ref l) (.int k) H Q := by
  subst e
  refine ⟨l, m, _, rfl, rfl, h, by omega, by omega, ?_, fun p hp => ?_⟩
  · have : (1000 : Nat) ≤ sizeLine := by decide
    simp
    omega
  · have := q p hp
    have e : (List.replicate (m : Int).toNat [V.int 0]).flatten = (List.replicate m (0 : Int)).map V.int := by
      rw [Int.toNat_natCast]
      induction m with
      | zero => rfl
      | succ n ih => simp [List.replicate_succ]
    rw [e]
    exact this
theorem set_i {p : Addr} {H : Hp} {Q : Hp → Prop} {xs : List Int} {i v : Int} (j : Nat) (h : H p = some (.lst (xs.map V.int))) (e : i = (j : Int)) (hj : j < xs.length) (q : Q (upd H p (.lst ((xs.set j v).map V.int)))) : rSetL (.ref p) (.int i) (.int v) H Q := by
  subst e
  refine ⟨p, _, j, j, rfl, rfl, h, ?_, by rw [← List.map_set]; exact q⟩
  unfold ixN
  rw [if_pos (by omega), if_pos (by rw [List.length_map]; omega), Int.toNat_natCast]
def sp_law_counts (K : Frag) : Sp := fun vs H Q _ => ∃ (P n : Nat) (s : Addr) (b : Int) (sets : List (List Int)), vs = [.int P, .ref s, .int b, .int n] ∧ LL H s sets ∧ 0 < P ∧ sets.length ≤ 100 ∧ n ≤ 100 ∧ -1000 ≤ b ∧ b ≤ 1000 ∧
  ∀ p H', H p = none → Ex H H' → H' p = some (.lst ((lawCounts P sets b n).map V.int)) → Q (.ref p) H'
theorem lc_inv (P : Nat) (sets : List (List Int)) (b : Int) (i : Nat) : (rf i (lcStep P sets b) (bestZ sets.length, [0])).1.length = sets.length + 1 ∧ (rf i (lcStep P sets b) (bestZ sets.length, [0])).2.length = i + 1 := by
  induction i with
  | zero => exact ⟨by simp [rf_zero, bestZ], rfl⟩
  | succ n ih =>
    rw [rf_succ]
    refine ⟨?_, ?_⟩
    · show (lcX _ _ _ _).length = _
      rw [lcX_len]; exact ih.1
    · show List.length (_ ++ _) = _
      rw [List.length_append, ih.2]; rfl
theorem lcDown_len (P : Nat) (sets : List (List Int)) (x : Int) (best : List Int) (n : Nat) : (rf n (lcDown P sets x) best).length = best.length := by
  induction n with
  | zero => rfl
  | succ n ih =>
    rw [rf_succ]
    unfold lcDown
    split
    · rw [List.length_set]; exact ih
    · exact ih
theorem lcUp_len (best : List Int) (n : Nat) : (rf n lcUp best).length = best.length := by
  induction n with
  | zero => rfl
  | succ n ih =>
    rw [rf_succ]
    unfold lcUp
    rw [List.length_set]; exact ih
theorem sc_law_counts : FnScope ["_law_places", "_law_sets", "_law_begin_here", "_law_length", "_law_best", "_law_counts_here", "_law_x", "_law_k"] ["_law_places", "_law_sets", "_law_begin_here", "_law_length"] (defScope s_law_counts) := ⟨rfl, rfl, rfl, by decide +kernel, rfl, by decide +kernel, by decide +kernel⟩
theorem b_law_counts {K : Frag} {mg : Str → Option Value} (c : Wd K mg) : Binds K (fdOf K (gA K "_law_counts")) ["_law_places", "_law_sets", "_law_begin_here", "_law_length"] [] := c.f_law_counts.binds (fun _ _ _ _ _ _ us hl => match us, hl with | [_, _, _, _], _ => rfl)
theorem ok_law_counts {P : Program} {w : World} {K : Frag} {mg : Str → Option Value} {base : Heap} (c : Wd K mg) : FnOk P w K mg base (L2.CX P w) 1 (gA K "_law_counts") (fdOf K (gA K "_law_counts")) ["_law_places", "_law_sets", "_law_begin_here", "_law_length"] (sp_law_counts K) := by
  refine c.f_law_counts.okX sc_law_counts (fun vs H Q E h => ?_) (fun cdv A outer s H vs Q E hr h => ⟨_, PSs.nox (pss_cons (ps_set (i := 4) sc_law_counts.nd rfl (Or.inl rfl) (pe_op op_rep (pe_lst (pa_cons pe_int pa_nil)) (pe_op op_add (pe_callB call_lenV (by rfl) c.z_len (by decide +kernel) (pa_cons (pv 1) pa_nil)) pe_int)))
      (pss_cons (ps_set (i := 5) sc_law_counts.nd rfl (Or.inl rfl) (pe_lst (pa_cons pe_int pa_nil)))
      (pss_cons (ps_for PassesOwn.never rfl (pi_range2 rfl c.z_range (pa_cons (pv 2) (pa_cons (pe_op op_add (pv 2) (pv 3)) pa_nil))) (pg_name (i := 6) sc_law_counts.nd rfl (Or.inl rfl)) (pss_cons (ps_for PassesOwn.never rfl (pi_range3 rfl c.z_range (pa_cons (pe_callB call_lenV (by rfl) c.z_len (by decide +kernel) (pa_cons (pv 1) pa_nil)) (pa_cons pe_int (pa_cons (pe_un un_neg pe_int) pa_nil)))) (pg_name (i := 7) sc_law_counts.nd rfl (Or.inl rfl)) (pss_one (ps_if (pt_cmpR op_in_seq (pe_op op_mod (pe_callTy call_int1 (by rfl) c.z_int (by decide +kernel) (pa_cons (pv 6) pa_nil)) (pv 0)) (pe_ix ix_list (pv 1) (pe_op op_sub (pv 7) pe_int) (fun _ _ => rfl)) rfl) (pss_one (ps_asg (pe_callB (call_max2 rfl) (by rfl) c.z_max (by decide +kernel) (pa_cons (pe_callTy call_int1 (by rfl) c.z_int (by decide +kernel) (pa_cons (pe_ix ix_list (pv 4) (pv 7) (fun _ _ => rfl)) pa_nil)) (pa_cons (pe_op op_add (pe_ix ix_list (pv 4) (pe_op op_sub (pv 7) pe_int) (fun _ _ => rfl)) pe_int) pa_nil))) (pg_sub (pv 4) (pv 7) set_list))) pss_nil)))
      (pss_cons (ps_for PassesOwn.never rfl (pi_range2 rfl c.z_range (pa_cons pe_int (pa_cons (pe_op op_add (pe_callB call_lenV (by rfl) c.z_len (by decide +kernel) (pa_cons (pv 1) pa_nil)) pe_int) pa_nil))) (pg_name (i := 7) sc_law_counts.nd rfl (Or.inl rfl)) (pss_one (ps_asg (pe_callB (call_max2 rfl) (by rfl) c.z_max (by decide +kernel) (pa_cons (pe_callTy call_int1 (by rfl) c.z_int (by decide +kernel) (pa_cons (pe_ix ix_list (pv 4) (pv 7) (fun _ _ => rfl)) pa_nil)) (pa_cons (pe_callTy call_int1 (by rfl) c.z_int (by decide +kernel) (pa_cons (pe_ix ix_list (pv 4) (pe_op op_sub (pv 7) pe_int) (fun _ _ => rfl)) pa_nil)) pa_nil))) (pg_sub (pv 4) (pv 7) set_list))))
      (pss_one (ps_expr (pe_bm PySem.F.plainAttrs_list PySem.F.slot_list_append PySem.F.type_list_append mt_append (pv 5) (pa_cons (pe_ix ix_list (pv 4) (pe_callB call_lenV (by rfl) c.z_len (by decide +kernel) (pa_cons (pv 1) pa_nil)) (fun _ _ => rfl)) pa_nil)))))))
      (pss_one (ps_ret (pv 5)))))), ?_⟩)
  · obtain ⟨P', n, s', b, sets, rfl, hL, hP, hsz, hn, hb1, hb2, hQ⟩ := h
    rfl
  obtain ⟨P', n, s', b, sets, rfl, hL, hP, hsz, hn, hb1, hb2, hQ⟩ := h
  walk_at "wp"
  refine ⟨szI, fun l0 hl0 => ?_⟩
  have hx0 : Ex H (upd H l0 (.lst [.int 0])) := Evl.Ex.new hl0
  obtain ⟨vs, hv1, hv2, _⟩ := (hL.mono hx0).seq (K := K)
  refine len_l hv1 rfl ?_
  walk_at "wp"
  refine rep_0 (sets.length + 1) upd_same (by omega) (by omega) fun l hl => ?_
  refine ⟨szI, fun q hq => ?_⟩
  walk_at "om"
  have hlH : H l = none := Evl.fresh_back hx0 hl
  have hxl : Ex H (upd (upd H l0 (.lst [.int 0])) l (.lst ((bestZ sets.length).map V.int))) := hx0.mut hlH
  have hqH : H q = none := Evl.fresh_back hxl hq
  have hql : q ≠ l := by rintro rfl; rw [upd_same] at hq; cases hq
  refine lp_rng (fun i σ' H' => ∃ x y, σ' = [some (.int P'), some (.ref s'), some (.int b), some (.int n), some (.ref l), some (.ref q), x, y] ∧ Ex H H' ∧ H' l = some (.lst ((rf i (lcStep P' sets b) (bestZ sets.length, [0])).1.map V.int)) ∧
    H' q = some (.lst ((rf i (lcStep P' sets b) (bestZ sets.length, [0])).2.map V.int))) ⟨_, _, rfl, hxl.mut hqH, by rw [upd_ne (Ne.symm hql), upd_same]; rfl, upd_same⟩ ?_ ?_
  · rintro i σ' H' hi ⟨x, y, rfl, hx, hl', hq'⟩
    obtain ⟨i1, i2⟩ := lc_inv P' sets b i
    walk_at "wp"
    obtain ⟨vs', hw1, hw2, _⟩ := (hL.mono hx).seq (K := K)
    refine len_l hw1 rfl ?_
    walk_at "wp"
    have hvl : vs'.length = sets.length := hw2
    refine ⟨_, RgC.neg (by omega) (by omega) (by omega) (by omega), ?_⟩
    refine lp_it walk_rangeC (fun j σ' H2 => ∃ y, σ' = [some (.int P'), some (.ref s'), some (.int b), some (.int n), some (.ref l), some (.ref q), some (.int (b + (i : Int))), y] ∧ Ex H H2 ∧
      H2 l = some (.lst ((rf j (lcDown P' sets (b + i)) (rf i (lcStep P' sets b) (bestZ sets.length, [0])).1).map V.int)) ∧ H2 q = some (.lst ((rf i (lcStep P' sets b) (bestZ sets.length, [0])).2.map V.int)))
      ⟨_, rfl, hx, hl', hq'⟩ (fun _ _ _ _ _ => trivial) ?_ ?_
    · rintro j v σ' H2 H3 hj ⟨y, rfl, hx2, hl2, hq2⟩ ⟨rfl, rfl⟩
      have e1 := lcDown_len P' sets (b + i) (rf i (lcStep P' sets b) (bestZ sets.length, [0])).1 j
      walk_at "wp"
      refine ⟨by omega, ?_⟩
      refine ixL_row (sets.length - j - 1) (hL.mono hx2) (by omega) (by omega) fun r hr => ?_
      refine in_int hr ?_
      walk_at "wp"
      split <;> rename_i h
      · refine ixL_i (sets.length - j) (Evl.sq_of hl2) (by omega) (by omega) ?_
        walk_at "wp"
        refine ixL_i (sets.length - j - 1) (Evl.sq_of hl2) (by omega) (by omega) ?_
        walk_at "wp"
        refine set_i (sets.length - j) hl2 (by omega) (by omega) ?_
        refine ⟨hx2.mut hlH, ?_, by rw [upd_ne hql]; exact hq2⟩
        rw [upd_same, rf_succ]
        congr 3
        exact (if_pos h).symm
      · refine ⟨hx2, ?_, hq2⟩
        rw [rf_succ]
        rw [hl2]
        congr 3
        exact (if_neg h).symm
    · rintro σ' H2 ⟨y, rfl, hx2, hl2, hq2⟩
      rw [show ((vs'.length : Int) - 0).toNat = sets.length by omega] at hl2
      walk_at "wp"
      obtain ⟨vs2, hw3, hw4, _⟩ := (hL.mono hx2).seq (K := K)
      refine len_l hw3 rfl ?_
      walk_at "wp"
      walk_at "om"
      refine lp_rng (fun j σ' H3 => ∃ y, σ' = [some (.int P'), some (.ref s'), some (.int b), some (.int n), some (.ref l), some (.ref q), some (.int (b + (i : Int))), y] ∧ Ex H H3 ∧
        H3 l = some (.lst ((rf j lcUp (rf sets.length (lcDown P' sets (b + i)) (rf i (lcStep P' sets b) (bestZ sets.length, [0])).1)).map V.int)) ∧ H3 q = some (.lst ((rf i (lcStep P' sets b) (bestZ sets.length, [0])).2.map V.int)))
        ⟨_, rfl, hx2, hl2, hq2⟩ ?_ ?_
      · rintro j σ' H3 hj ⟨y, rfl, hx3, hl3, hq3⟩
        have e1 := lcDown_len P' sets (b + i) (rf i (lcStep P' sets b) (bestZ sets.length, [0])).1 sets.length
        have e2 := lcUp_len (rf sets.length (lcDown P' sets (b + i)) (rf i (lcStep P' sets b) (bestZ sets.length, [0])).1) j
        walk_at "wp"
        refine ixL_i (j + 1) (Evl.sq_of hl3) (by omega) (by omega) ?_
        walk_at "wp"
        refine ixL_i j (Evl.sq_of hl3) (by omega) (by omega) ?_
        walk_at "wp"
        refine set_i (j + 1) hl3 (by omega) (by omega) ?_
        refine ⟨hx3.mut hlH, ?_, by rw [upd_ne hql]; exact hq3⟩
        rw [upd_same, rf_succ] <;> rfl
      · rintro σ' H3 ⟨y, rfl, hx3, hl3, hq3⟩
        rw [show ((vs2.length : Int) + 1 - 1).toNat = sets.length by omega] at hl3
        have e1 := lcDown_len P' sets (b + i) (rf i (lcStep P' sets b) (bestZ sets.length, [0])).1 sets.length
        have e2 := lcUp_len (rf sets.length (lcDown P' sets (b + i)) (rf i (lcStep P' sets b) (bestZ sets.length, [0])).1) sets.length
        walk_at "wp"
        obtain ⟨vs3, hw5, hw6, _⟩ := (hL.mono hx3).seq (K := K)
        refine ⟨tyL hq3, len_l hw5 rfl ?_⟩
        walk_at "wp"
        refine ixL_i sets.length (Evl.sq_of hl3) (by omega) (by omega) ?_
        refine app_ok hq3 (by rw [List.length_map]; omega) ?_
        refine ⟨hx3.mut hqH, by rw [upd_ne (Ne.symm hql), rf_succ]; exact hl3, ?_⟩
        rw [upd_same, rf_succ]
        show _ = some (HO.lst (List.map V.int (_ ++ [_])))
        rw [List.map_append] <;> rfl
  · rintro σ' H' ⟨x, y, rfl, hx, hl', hq'⟩
    walk_at "wp"
    rw [show ((b + n - b).toNat) = n by omega] at hq'
    exact hQ q H' hqH hx hq'
end DR

set_option Elab.async false
set_option linter.all false
set_option maxRecDepth 100000
set_option maxHeartbeats 4000000
namespace DR
open PySem PySem.Spec PyProof.Rows L2
open PySem.W (Frag)
local macro_rules
  | `(tactic| walk_at "wp") => `(tactic| try simp only [L2.start, List.map_cons, List.map_nil, List.length_cons, List.length_nil, List.replicate, Nat.reduceAdd, Nat.reduceSub, List.cons_append, List.nil_append, List.append_nil, List.set_cons_succ, List.set_cons_zero,
      List.getElem?_cons_succ, List.getElem?_cons_zero, ap_K1, ap_K2, ap_seq, ap_next, ap_asg, ap_name, ap_ret, ap_retN, ap_drop, ap_ifS, ap_c, ap_var, ap_op, ap_un, ap_chain, ap_test, ap_B, ap_and, ap_or, ap_not, ap_yes, ap_andV, ap_orV, ap_notV, ap_if, ap_nil, ap_cons, ap_cb, ap_lst, ap_tup, ap_bm, ap_bm0, ap_m1, ap_call, ap_sl, ap_part, ap_nopart, ap_rI0, ap_rI, ap_rU, ap_eqI, ap_neI, ap_eqS, ap_neS, ap_eqB, ap_neB, ap_fld, ap_tup_, ap_gcons, ap_gnil, ap_gsub, ap_for, ap_lc, ap_rng1, ap_rng2, ap_list, ap_itup, ap_str, ap_enum, ap_zip, ap_inSg, ap_ninSg, ap_addS, ap_sfld, ap_meth, ap_prop, ap_make, ap_smeth, ap_never, ap_ost, ap_callS, ap_mko, ap_enumS, ap_zipS, ap_rng3, ap_listRg, ap_rg1, ap_cval, len_abcdef, exists_and_left, exists_and_right, exists_eq_left', and_assoc, exists_eq_left, exists_eq, exists_eq', Option.some.injEq, V.int.injEq, V.str.injEq, V.ref.injEq, V.bl.injEq, V.ty.injEq, List.cons.injEq, and_true, true_and, decide_eq_true_eq, Bool.not_eq_true', decide_eq_false_iff_not, Bool.false_eq_true, if_true, if_false, reduceCtorEq, false_and, and_false, or_false, false_or, or_true, true_or, not_true_eq_false, not_false_eq_true, Int.zero_add, lit_nil, lit_a, tx_len, one_tx, tx_app, tx_inj, exists_const, forall_const])
  | `(tactic| walk_at "om") => `(tactic| repeat (refine ⟨by first | omega | exact szI, ?_⟩))

theorem lawCounts_len (P : Nat) (sets : List (List Int)) (b : Int) (n : Nat) : (lawCounts P sets b n).length = n + 1 := (lc_inv P sets b n).2
def sp_law_page_coat (K : Frag) : Sp := fun vs H Q _ => ∃ (P n : Nat) (s : Addr) (low : Int) (sets : List (List Int)), vs = [.int P, .ref s, .int low, .int n] ∧ LL H s sets ∧ 0 < P ∧ sets.length ≤ 100 ∧ n ≤ 5 ∧ -100 ≤ low ∧ low ≤ 100 ∧
  ∀ H', Ex H H' → Q (.str (tx (lawPageCoat P sets low n))) H'
theorem sc_law_page_coat : FnScope ["_law_places", "_law_sets", "_law_low", "_law_size", "_law_table", "_law_gap"] ["_law_places", "_law_sets", "_law_low", "_law_size"] (defScope s_law_page_coat) := ⟨rfl, rfl, rfl, by decide +kernel, rfl, by decide +kernel, by decide +kernel⟩
theorem b_law_page_coat {K : Frag} {mg : Str → Option Value} (c : Wd K mg) : Binds K (fdOf K (gA K "_law_page_coat")) ["_law_places", "_law_sets", "_law_low", "_law_size"] [] := c.f_law_page_coat.binds (fun _ _ _ _ _ _ us hl => match us, hl with | [_, _, _, _], _ => rfl)
theorem ok_law_page_coat {P : Program} {w : World} {K : Frag} {mg : Str → Option Value} {base : Heap} (c : Wd K mg) : FnOk P w K mg base (L2.CX P w) 2 (gA K "_law_page_coat") (fdOf K (gA K "_law_page_coat")) ["_law_places", "_law_sets", "_law_low", "_law_size"] (sp_law_page_coat K) := by
  refine c.f_law_page_coat.okX sc_law_page_coat (fun vs H Q E h => ?_) (fun cdv A outer s H vs Q E hr h => ⟨_, PSs.nox (pss_cons (ps_set (i := 4) sc_law_page_coat.nd rfl (Or.inl rfl) (pe_lst pa_nil))
      (pss_cons (ps_for PassesOwn.never rfl (pi_range1 rfl c.z_range (pa_cons (pe_op op_add (pv 3) pe_int) pa_nil)) (pg_name (i := 5) sc_law_page_coat.nd rfl (Or.inl rfl)) (pss_one (ps_expr (pe_bm PySem.F.plainAttrs_list PySem.F.slot_list_append PySem.F.type_list_append mt_append (pv 4) (pa_cons (pe_call (ok_law_counts c) (hr.mono (by decide)) rfl c.g_law_counts c.f_law_counts.kp (b_law_counts c) .nil passL (pa_cons (pv 0) (pa_cons (pv 1) (pa_cons (pe_op op_add (pv 2) (pv 5)) (pa_cons (pe_op op_sub (pv 3) (pv 5)) pa_nil))))) pa_nil)))))
      (pss_one (ps_ret (pe_call (ok_law_coat_text c) (hr.mono (by decide)) rfl c.g_law_coat_text c.f_law_coat_text.kp (b_law_coat_text c) .nil passL (pa_cons (pv 4) pa_nil)))))), ?_⟩)
  · obtain ⟨P', n, s', low, sets, rfl, hL, hP, hsz, hn, hb1, hb2, hQ⟩ := h
    rfl
  obtain ⟨P', n, s', low, sets, rfl, hL, hP, hsz, hn, hb1, hb2, hQ⟩ := h
  walk_at "wp"
  refine ⟨szI, fun p hp => ?_⟩
  walk_at "om"
  refine lp_rng (fun i σ' H' => ∃ x, σ' = [some (.int P'), some (.ref s'), some (.int low), some (.int n), some (.ref p), x] ∧ Ex H H' ∧ LL H' p (mapr i fun g => lawCounts P' sets (low + g) (n - g))) ⟨_, rfl, Evl.Ex.new hp, LL.nil⟩ ?_ ?_
  · rintro i σ' H' hi ⟨x, rfl, hx, hL2⟩
    walk_at "wp"
    obtain ⟨as, ha, hb⟩ := id hL2
    refine ⟨tyL ha, P', n - i, s', low + i, sets, by rw [show ((n : Int) - i) = ((n - i : Nat) : Int) by omega], hL.mono hx, hP, hsz, by omega, by omega, by omega, fun q H2 hq hx2 hq2 => ?_⟩
    have hL3 := hL2.mono hx2
    refine app_ok (hx2 _ _ ha) (by rw [List.length_map, hb.1, mapr_len]; omega) ?_
    refine ⟨(hx.trans hx2).mut hp, ?_⟩
    rw [mapr_succ]
    refine hL3.push (hx2 _ _ ha) hq2 ?_
    rintro rfl
    rw [hq] at ha
    cases ha
  · rintro σ' H' ⟨x, rfl, hx, hL2⟩
    rw [show ((n : Int) + 1).toNat = n + 1 by omega] at hL2
    walk_at "wp"
    refine ⟨p, _, rfl, hL2, by rw [mapr_len]; omega, fun b hb => ?_, hQ H' hx⟩
    rw [mapr_len] at hb ⊢
    rw [mapr_get hb, lawCounts_len]
    omega
def sp_law_coat_product (K : Frag) : Sp := fun vs H Q _ => ∃ (f s : List Nat), vs = [.str (tx f), .str (tx s)] ∧ f.length ≤ 6 ∧ s.length ≤ 6 ∧ ∀ H', Ex H H' → Q (.str (tx (lawCoatProduct f s))) H'
theorem sc_law_coat_product : FnScope ["_law_first", "_law_second", "_law_table", "_law_low", "_law_row", "_law_high", "_law_most", "_law_cut", "_law_one"] ["_law_first", "_law_second"] (defScope s_law_coat_product) := ⟨rfl, rfl, rfl, by decide +kernel, rfl, by decide +kernel, by decide +kernel⟩
theorem b_law_coat_product {K : Frag} {mg : Str → Option Value} (c : Wd K mg) : Binds K (fdOf K (gA K "_law_coat_product")) ["_law_first", "_law_second"] [] := c.f_law_coat_product.binds (fun _ _ _ _ _ _ us hl => match us, hl with | [_, _], _ => rfl)
theorem ok_law_coat_product {P : Program} {w : World} {K : Frag} {mg : Str → Option Value} {base : Heap} (c : Wd K mg) : FnOk P w K mg base (L2.CX P w) 2 (gA K "_law_coat_product") (fdOf K (gA K "_law_coat_product")) ["_law_first", "_law_second"] (sp_law_coat_product K) := by
  refine c.f_law_coat_product.okX sc_law_coat_product (fun vs H Q E h => ?_) (fun cdv A outer s H vs Q E hr h => ⟨_, PSs.nox (pss_cons (ps_set (i := 2) sc_law_coat_product.nd rfl (Or.inl rfl) (pe_lst pa_nil))
      (pss_cons (ps_for PassesOwn.never rfl (pi_range1 rfl c.z_range (pa_cons (pe_callB call_len_str (by rfl) c.z_len (by decide +kernel) (pa_cons (pv 0) pa_nil)) pa_nil)) (pg_name (i := 3) sc_law_coat_product.nd rfl (Or.inl rfl)) (pss_cons (ps_set (i := 4) sc_law_coat_product.nd rfl (Or.inl rfl) (pe_lst pa_nil))
      (pss_cons (ps_for PassesOwn.never rfl (pi_range2 rfl c.z_range (pa_cons (pv 3) (pa_cons (pe_callB call_len_str (by rfl) c.z_len (by decide +kernel) (pa_cons (pv 0) pa_nil)) pa_nil))) (pg_name (i := 5) sc_law_coat_product.nd rfl (Or.inl rfl)) (pss_cons (ps_set (i := 6) sc_law_coat_product.nd rfl (Or.inl rfl) pe_int)
      (pss_cons (ps_for PassesOwn.never rfl (pi_range2 rfl c.z_range (pa_cons (pv 3) (pa_cons (pe_op op_add (pv 5) pe_int) pa_nil))) (pg_name (i := 7) sc_law_coat_product.nd rfl (Or.inl rfl)) (pss_cons (ps_set (i := 8) sc_law_coat_product.nd rfl (Or.inl rfl) (pe_call (ok_law_colours c) (hr.mono (by decide)) rfl c.g_law_colours c.f_law_colours.kp (b_law_colours c) .nil passL (pa_cons (pv 0) (pa_cons (pv 3) (pa_cons (pv 7) pa_nil)))))
      (pss_one (ps_set (i := 6) sc_law_coat_product.nd rfl (Or.inl rfl) (pe_callB (call_max2 rfl) (by rfl) c.z_max (by decide +kernel) (pa_cons (pe_callTy call_int1 (by rfl) c.z_int (by decide +kernel) (pa_cons (pv 6) pa_nil)) (pa_cons (pe_op op_add (pv 8) (pe_call (ok_law_colours c) (hr.mono (by decide)) rfl c.g_law_colours c.f_law_colours.kp (b_law_colours c) .nil passL (pa_cons (pv 1) (pa_cons (pv 7) (pa_cons (pv 5) pa_nil))))) pa_nil)))))))
      (pss_one (ps_expr (pe_bm PySem.F.plainAttrs_list PySem.F.slot_list_append PySem.F.type_list_append mt_append (pv 4) (pa_cons (pv 6) pa_nil)))))))
      (pss_one (ps_expr (pe_bm PySem.F.plainAttrs_list PySem.F.slot_list_append PySem.F.type_list_append mt_append (pv 2) (pa_cons (pv 4) pa_nil)))))))
      (pss_one (ps_ret (pe_call (ok_law_coat_text c) (hr.mono (by decide)) rfl c.g_law_coat_text c.f_law_coat_text.kp (b_law_coat_text c) .nil passL (pa_cons (pv 2) pa_nil)))))), ?_⟩)
  · obtain ⟨f', s', rfl, hf, hs, hQ⟩ := h
    rfl
  obtain ⟨f', s', rfl, hf, hs, hQ⟩ := h
  walk_at "wp"
  refine ⟨szI, fun p hp => ?_⟩
  walk_at "om"
  refine lp_rng (fun i σ' H' => ∃ x1 x2 x3 x4 x5 x6, σ' = [some (.str (tx f')), some (.str (tx s')), some (.ref p), x1, x2, x3, x4, x5, x6] ∧ Ex H H' ∧ LL H' p (mapr i fun lo => mapr (f'.length - lo) (lcpBest f' s' lo))) ⟨_, _, _, _, _, _, rfl, Evl.Ex.new hp, LL.nil⟩ ?_ ?_
  · rintro i σ' H' hi ⟨x1, x2, x3, x4, x5, x6, rfl, hx, hL⟩
    walk_at "wp"
    refine ⟨szI, fun q hq => ?_⟩
    walk_at "om"
    refine lp_rng (fun j σ' H3 => ∃ x3 x4 x5 x6, σ' = [some (.str (tx f')), some (.str (tx s')), some (.ref p), some (.int (i : Int)), some (.ref q), x3, x4, x5, x6] ∧ Ex H' H3 ∧ H3 q = some (.lst ((mapr j (lcpBest f' s' i)).map V.int))) ⟨_, _, _, _, rfl, Evl.Ex.new hq, upd_same⟩ ?_ ?_
    · rintro j σ' H3 hj ⟨x3, x4, x5, x6, rfl, hx3, hq3⟩
      walk_at "wp"
      walk_at "om"
      refine lp_rng (fun k σ' H4 => ∃ x5 x6, σ' = [some (.str (tx f')), some (.str (tx s')), some (.ref p), some (.int (i : Int)), some (.ref q), some (.int ((i : Int) + j)),
        some (.int (rf k (fun best c => imax best (colours f' i (i + c) + colours s' (i + c) (i + j))) 0)), x5, x6] ∧ Ex H3 H4) ⟨_, _, rfl, Evl.Ex.refl _⟩ ?_ ?_
      · rintro k σ' H4 hk ⟨x5, x6, rfl, hx4⟩
        walk_at "wp"
        refine ⟨f', i, i + k, by simp, by omega, fun H5 hx5 => ?_⟩
        walk_at "wp"
        refine ⟨s', i + k, i + j, by simp, by omega, fun H6 hx6 => ?_⟩
        walk_at "wp"
        refine ⟨?_, hx4.trans (hx5.trans hx6)⟩
        rw [rf_succ] <;> rfl
      · rintro σ' H4 ⟨x5, x6, rfl, hx4⟩
        walk_at "wp"
        have hq4 := hx4 _ _ hq3
        refine ⟨tyL hq4, app_ok hq4 (by rw [List.length_map, mapr_len]; omega) ?_⟩
        refine ⟨(hx3.trans hx4).mut hq, ?_⟩
        rw [upd_same, mapr_succ, List.map_append, show ((i : Int) + j + 1 - i).toNat = j + 1 by omega] <;> rfl
    · rintro σ' H3 ⟨x3, x4, x5, x6, rfl, hx3, hq3⟩
      walk_at "wp"
      have hL3 := hL.mono hx3
      obtain ⟨as, ha, hb⟩ := id hL3
      refine ⟨tyL ha, app_ok ha (by rw [List.length_map, hb.1, mapr_len]; omega) ?_⟩
      refine ⟨(hx.trans hx3).mut hp, ?_⟩
      rw [mapr_succ]
      refine hL3.push ha (by rw [hq3, show ((f'.length : Int) - i).toNat = f'.length - i by omega]) ?_
      rintro rfl
      obtain ⟨bs', hb', _⟩ := hL
      rw [hq] at hb'
      cases hb'
  · rintro σ' H' ⟨x1, x2, x3, x4, x5, x6, rfl, hx, hL⟩
    walk_at "wp"
    rw [show ((f'.length : Int)).toNat = f'.length by omega] at hL
    refine ⟨p, _, rfl, hL, by rw [mapr_len]; omega, fun b hb => ?_, hQ H' hx⟩
    rw [mapr_len] at hb ⊢
    rw [mapr_get hb, mapr_len]
    exact Nat.le_refl _
/-- texts in a list -/
def sv (ts : List (List Nat)) : List V := ts.map fun t => V.str (tx t)
theorem sv_len (ts : List (List Nat)) : (sv ts).length = ts.length := by simp [sv]
theorem flat_sv {ts : List (List Nat)} : (sv ts).all flatV = true := by simp [sv, flatV]
theorem inV_sv {t : List Nat} {ts : List (List Nat)} : inV (.str (tx t)) (sv ts) = decide (t ∈ ts) := by
  unfold inV sv
  rw [List.any_map]
  induction ts with
  | nil => rfl
  | cons a r ih =>
    rw [List.any_cons, ih]
    show ((tx a == tx t) || decide (t ∈ r)) = decide (t ∈ a :: r)
    by_cases h : t = a
    · subst h; simp
    · have h' : ¬ tx a = tx t := fun e => h (tx_inj.mp e).symm
      simp [h, h']
theorem in_sv {K : Frag} {p : Addr} {H : Hp} {Q : VK} {t : List Nat} {ts : List (List Nat)} {neg : Bool} (h : SqL K H p (sv ts)) (q : Q (.bl (if neg then !decide (t ∈ ts) else decide (t ∈ ts))) H) : rIn K neg (.str (tx t)) (.ref p) H Q :=
  ⟨p, _, rfl, .inl h, rfl, flat_sv, by rw [inV_sv]; exact q⟩
theorem ixL_s {K : Frag} {p : Addr} {H : Hp} {Q : VK} {ts : List (List Nat)} {i : Int} (j : Nat) (h : SqL K H p (sv ts)) (e : i = (j : Int)) (hj : j < ts.length) (q : Q (.str (tx (ts.getD j []))) H) : rIxL K (.ref p) (.int i) H Q :=
  ixL_v j h e (v := .str (tx (ts.getD j []))) (by unfold sv; rw [List.getElem?_map, List.getElem?_eq_getElem hj, List.getD_eq_getElem?_getD, List.getElem?_eq_getElem hj]; rfl) q
theorem mulS_a {n : Nat} {i : Int} {H : Hp} {Q : VK} (e : i = ((n + 1 : Nat) : Int)) (hn : n ≤ 100) (q : Q (.str (tx (plainT n))) H) : rMulS (.str (tx [97])) (.int i) H Q := by
  subst e
  refine ⟨[97], n + 1, rfl, rfl, by omega, by simp, ?_⟩
  have : (List.replicate (n + 1) [97]).flatten = plainT n := by
    unfold plainT
    generalize n + 1 = m
    induction m with
    | zero => rfl
    | succ k ih => rw [List.replicate_succ, List.flatten_cons, ih]; rfl
  rw [this]
  exact q
/-- every text of the closure has at most six letters -/
def sp_law_closure (K : Frag) : Sp := fun vs H Q _ => ∃ (a : Addr) (n : Nat) (coats : List (List Nat)), vs = [.ref a, .int n] ∧ SqL K H a (sv coats) ∧ n ≤ 5 ∧ coats.length ≤ 10 ∧ (∀ t ∈ coats, t.length ≤ 6) ∧
  ∀ p H', H p = none → Ex H H' → H' p = some (.lst (sv (lawClosure coats n))) → Q (.ref p) H'
theorem lawCoatText_len (rows : List (List Int)) : (lawCoatText rows).length = rows.length := (lct_inv rows rows.length).1
theorem lawCoatProduct_len (f s : List Nat) : (lawCoatProduct f s).length = f.length := by
  unfold lawCoatProduct
  rw [lawCoatText_len, mapr_len]
theorem clStep_all {n at_ : Nat} {found : List (List Nat)} {coat : List Nat} (h : ∀ t ∈ found, t.length = n + 1) : ∀ t ∈ clStep at_ found coat, t.length = n + 1 := by
  unfold clStep
  split
  · split
    · exact h
    · intro t ht
      rcases List.mem_append.mp ht with ht | ht
      · exact h t ht
      · rw [List.mem_singleton] at ht
        subst ht
        rename_i hlt _
        rw [lawCoatProduct_len, List.getD_eq_getElem?_getD, List.getElem?_eq_getElem hlt]
        exact h _ (List.getElem_mem hlt)
  · exact h
theorem clFold_all {n at_ : Nat} {coats : List (List Nat)} : ∀ {found : List (List Nat)}, (∀ t ∈ found, t.length = n + 1) → ∀ t ∈ coats.foldl (clStep at_) found, t.length = n + 1 := by
  induction coats with
  | nil => exact fun h => h
  | cons c r ih => exact fun h => ih (clStep_all h)
theorem clRf_all {n : Nat} {coats : List (List Nat)} (i : Nat) : ∀ t ∈ rf i (fun found at_ => coats.foldl (clStep at_) found) [plainT n], t.length = n + 1 := by
  induction i with
  | zero => intro t ht; rw [rf_zero, List.mem_singleton] at ht; subst ht; simp [plainT]
  | succ i ih => rw [rf_succ]; exact clFold_all ih
theorem clStep_len {at_ : Nat} {found : List (List Nat)} {coat : List Nat} : (clStep at_ found coat).length ≤ found.length + 1 := by
  unfold clStep
  split
  · split
    · omega
    · rw [List.length_append]; exact Nat.le_refl _
  · omega
theorem clFold_len {at_ : Nat} {coats : List (List Nat)} : ∀ {found : List (List Nat)}, (coats.foldl (clStep at_) found).length ≤ found.length + coats.length := by
  induction coats with
  | nil => intro f; exact Nat.le_refl _
  | cons c r ih =>
    intro f
    have h1 := ih (found := clStep at_ f c)
    have h2 := clStep_len (at_ := at_) (found := f) (coat := c)
    rw [List.foldl_cons, List.length_cons]
    omega
theorem clRf_len {n : Nat} {coats : List (List Nat)} (i : Nat) : (rf i (fun found at_ => coats.foldl (clStep at_) found) [plainT n]).length ≤ 1 + i * coats.length := by
  induction i with
  | zero => simp [rf_zero]
  | succ i ih =>
    rw [rf_succ]
    have := clFold_len (at_ := i) (coats := coats) (found := rf i (fun found at_ => coats.foldl (clStep at_) found) [plainT n])
    rw [Nat.succ_mul]
    omega
theorem sc_law_closure : FnScope ["_law_coats", "_law_size", "_law_found", "_law_at", "_law_coat", "_law_text"] ["_law_coats", "_law_size"] (defScope s_law_closure) := ⟨rfl, rfl, rfl, by decide +kernel, rfl, by decide +kernel, by decide +kernel⟩
theorem b_law_closure {K : Frag} {mg : Str → Option Value} (c : Wd K mg) : Binds K (fdOf K (gA K "_law_closure")) ["_law_coats", "_law_size"] [] := c.f_law_closure.binds (fun _ _ _ _ _ _ us hl => match us, hl with | [_, _], _ => rfl)
theorem ok_law_closure {P : Program} {w : World} {K : Frag} {mg : Str → Option Value} {base : Heap} (c : Wd K mg) : FnOk P w K mg base (L2.CX P w) 3 (gA K "_law_closure") (fdOf K (gA K "_law_closure")) ["_law_coats", "_law_size"] (sp_law_closure K) := by
  refine c.f_law_closure.okX sc_law_closure (fun vs H Q E h => ?_) (fun cdv A outer s H vs Q E hr h => ⟨_, PSs.nox (pss_cons (ps_set (i := 2) sc_law_closure.nd rfl (Or.inl rfl) (pe_lst (pa_cons (pe_op op_mul_str pe_str (pe_op op_add (pv 1) pe_int)) pa_nil)))
      (pss_cons (ps_for PassesOwn.never rfl (pi_range1 rfl c.z_range (pa_cons pe_int pa_nil)) (pg_name (i := 3) sc_law_closure.nd rfl (Or.inl rfl)) (pss_one (ps_for PassesOwn.never rfl (pi_list (pv 0)) (pg_name (i := 4) sc_law_closure.nd rfl (Or.inl rfl)) (pss_one (ps_if (pt_cmpR op_lt (pv 3) (pe_callB call_lenV (by rfl) c.z_len (by decide +kernel) (pa_cons (pv 2) pa_nil)) (nomark _)) (pss_cons (ps_set (i := 5) sc_law_closure.nd rfl (Or.inl rfl) (pe_call (ok_law_coat_product c) (hr.mono (by decide)) rfl c.g_law_coat_product c.f_law_coat_product.kp (b_law_coat_product c) .nil passL (pa_cons (pe_ix ix_list (pv 2) (pv 3) (fun _ _ => rfl)) (pa_cons (pv 4) pa_nil))))
      (pss_one (ps_if (pt_cmpR op_notIn_seq (pv 5) (pv 2) rfl) (pss_one (ps_expr (pe_bm PySem.F.plainAttrs_list PySem.F.slot_list_append PySem.F.type_list_append mt_append (pv 2) (pa_cons (pv 5) pa_nil)))) pss_nil))) pss_nil)))))
      (pss_one (ps_ret (pv 2))))), ?_⟩)
  · obtain ⟨a, n, coats, rfl, hS, hn, hsz, hlen, hQ⟩ := h
    rfl
  obtain ⟨a, n, coats, rfl, hS, hn, hsz, hlen, hQ⟩ := h
  walk_at "wp"
  refine mulS_a (n := n) (by omega) (by omega) ?_
  refine ⟨szI, fun p hp => ?_⟩
  walk_at "om"
  refine lp_rng (fun i σ' H' => ∃ x1 x2 x3, σ' = [some (.ref a), some (.int n), some (.ref p), x1, x2, x3] ∧ Ex H H' ∧ H' p = some (.lst (sv (rf i (fun found at_ => coats.foldl (clStep at_) found) [plainT n])))) ⟨_, _, _, rfl, Evl.Ex.new hp, upd_same⟩ ?_ ?_
  · rintro i σ' H' hi ⟨x1, x2, x3, rfl, hx, hp'⟩
    have hi : i < 16 := hi
    walk_at "wp"
    refine ⟨⟨_, Evl.ex_l hx hS⟩, ?_⟩
    refine lp_list (fun j σ' H2 => ∃ x2 x3, σ' = [some (.ref a), some (.int n), some (.ref p), some (.int (i : Int)), x2, x3] ∧ Ex H H2 ∧ H2 p = some (.lst (sv ((coats.take j).foldl (clStep i) (rf i (fun found at_ => coats.foldl (clStep at_) found) [plainT n])))))
      ⟨_, _, rfl, hx, hp'⟩ (fun j σ' H2 _ ⟨_, _, _, e, _⟩ => Evl.ex_l e hS) ?_ ?_
    · rintro j v σ' H2 hj hv ⟨x2, x3, rfl, hx2, hp2⟩
      rw [sv_len] at hj
      unfold sv at hv
      rw [List.getElem?_map, List.getElem?_eq_getElem hj] at hv
      simp only [Option.map_some, Option.some.injEq] at hv
      subst hv
      have ht : coats.take (j + 1) = coats.take j ++ [coats[j]] := by rw [List.take_add_one, List.getElem?_eq_getElem hj]; rfl
      have e : (coats.take (j + 1)).foldl (clStep i) (rf i (fun found at_ => coats.foldl (clStep at_) found) [plainT n]) = clStep i ((coats.take j).foldl (clStep i) (rf i (fun found at_ => coats.foldl (clStep at_) found) [plainT n])) coats[j] := by
        rw [ht, List.foldl_append]; rfl
      have hall := clFold_all (at_ := i) (coats := coats.take j) (clRf_all (n := n) (coats := coats) i)
      have hle := clFold_len (at_ := i) (coats := coats.take j) (found := rf i (fun found at_ => coats.foldl (clStep at_) found) [plainT n])
      have hle2 := clRf_len (n := n) (coats := coats) i
      have hle3 : (coats.take j).length ≤ 10 := by rw [List.length_take]; omega
      have hle4 : i * coats.length ≤ 16 * 10 := Nat.mul_le_mul (by omega) hsz
      rw [e]
      revert hp2 hall hle
      generalize (coats.take j).foldl (clStep i) (rf i (fun found at_ => coats.foldl (clStep at_) found) [plainT n]) = fd
      intro hp2 hall hle
      walk_at "wp"
      refine len_l (Evl.sq_of hp2) rfl ?_
      rw [sv_len]
      walk_at "wp"
      split <;> rename_i h
      · have h : i < fd.length := by omega
        refine ixL_s i (Evl.sq_of hp2) rfl h ?_
        have hl1 : (fd.getD i []).length = n + 1 := by
          rw [List.getD_eq_getElem?_getD, List.getElem?_eq_getElem h]
          exact hall _ (List.getElem_mem h)
        refine ⟨fd.getD i [], coats[j], rfl, by omega, hlen _ (List.getElem_mem hj), fun H3 hx3 => ?_⟩
        have hp3 := hx3 _ _ hp2
        walk_at "wp"
        refine in_sv (Evl.sq_of hp3) ?_
        walk_at "wp"
        split <;> rename_i h2
        · refine ⟨tyL hp3, app_ok hp3 (by rw [sv_len]; omega) ?_⟩
          refine ⟨(hx2.trans hx3).mut hp, ?_⟩
          rw [upd_same]
          unfold clStep
          rw [if_pos h, if_neg (by simpa using h2)]
          simp [sv]
        · refine ⟨hx2.trans hx3, ?_⟩
          rw [hp3]
          unfold clStep
          rw [if_pos h, if_pos]
          simpa using h2
      · refine ⟨hx2, ?_⟩
        rw [hp2]
        unfold clStep
        rw [if_neg (by omega)]
    · rintro σ' H2 ⟨x2, x3, rfl, hx2, hp2⟩
      walk_at "wp"
      refine ⟨hx2, ?_⟩
      rw [sv_len, List.take_length] at hp2
      rw [hp2, rf_succ]
  · rintro σ' H' ⟨x1, x2, x3, rfl, hx, hp'⟩
    walk_at "wp"
    exact hQ p H' hp hx hp'
end DR

set_option Elab.async false
set_option linter.all false
set_option maxRecDepth 100000
set_option maxHeartbeats 4000000
namespace DR
open PySem PySem.Spec PyProof.Rows L2
open PySem.W (Frag)
local macro_rules
  | `(tactic| walk_at "wp") => `(tactic| try simp only [L2.start, List.map_cons, List.map_nil, List.length_cons, List.length_nil, List.replicate, Nat.reduceAdd, Nat.reduceSub, List.cons_append, List.nil_append, List.append_nil, List.set_cons_succ, List.set_cons_zero,
      List.getElem?_cons_succ, List.getElem?_cons_zero, ap_K1, ap_K2, ap_seq, ap_next, ap_asg, ap_name, ap_ret, ap_retN, ap_drop, ap_ifS, ap_c, ap_var, ap_op, ap_un, ap_chain, ap_test, ap_B, ap_and, ap_or, ap_not, ap_yes, ap_andV, ap_orV, ap_notV, ap_if, ap_nil, ap_cons, ap_cb, ap_lst, ap_tup, ap_bm, ap_bm0, ap_m1, ap_call, ap_sl, ap_part, ap_nopart, ap_rI0, ap_rI, ap_rU, ap_eqI, ap_neI, ap_eqS, ap_neS, ap_eqB, ap_neB, ap_fld, ap_tup_, ap_gcons, ap_gnil, ap_gsub, ap_for, ap_lc, ap_rng1, ap_rng2, ap_list, ap_itup, ap_str, ap_enum, ap_zip, ap_inSg, ap_ninSg, ap_addS, ap_sfld, ap_meth, ap_prop, ap_make, ap_smeth, ap_never, ap_ost, ap_callS, ap_mko, ap_enumS, ap_zipS, ap_rng3, ap_listRg, ap_rg1, ap_cval, len_abcdef, exists_and_left, exists_and_right, exists_eq_left', and_assoc, exists_eq_left, exists_eq, exists_eq', Option.some.injEq, V.int.injEq, V.str.injEq, V.ref.injEq, V.bl.injEq, V.ty.injEq, List.cons.injEq, and_true, true_and, decide_eq_true_eq, Bool.not_eq_true', decide_eq_false_iff_not, Bool.false_eq_true, if_true, if_false, reduceCtorEq, false_and, and_false, or_false, false_or, or_true, true_or, not_true_eq_false, not_false_eq_true, Int.zero_add, lit_nil, lit_a, tx_len, one_tx, tx_app, tx_inj, exists_const, forall_const])
  | `(tactic| walk_at "om") => `(tactic| repeat (refine ⟨by first | omega | exact szI, ?_⟩))

/-! ### the exceptions -/
def XD (H : Hp) (d : Addr) (fs : List (Str × V)) : Prop := H d = some (.xd fs)
def sp_X2 (C : Addr) (f1 f2 : Str) : Sp := fun vs H Q _ => ∃ (a : Addr) (u v : V), vs = [.ref a, u, v] ∧ H a = some (exo a C none) ∧ ∀ d, H d = none → d ≠ a → Q .non (upd (upd (upd H d (exd d [(f1, u)])) a (exo a C (some d))) d (exd d [(f2, v), (f1, u)]))
def sp_X1 (C : Addr) (f1 : Str) : Sp := fun vs H Q _ => ∃ (a : Addr) (u : V), vs = [.ref a, u] ∧ H a = some (exo a C none) ∧ ∀ d, H d = none → d ≠ a → Q .non (upd (upd H d (exd d [(f1, u)])) a (exo a C (some d)))
theorem ost_new_ok {K : Frag} {f : Str} {a C : Addr} {y : V} {H : Hp} {Q : Hp → Prop} (T : OexC K C) (n : PySem.W.findIn K (.ref C) f = some none) (h : H a = some (exo a C none)) (q : ∀ dx, H dx = none → dx ≠ a → Q (upd (upd H dx (exd dx [(f, y)])) a (exo a C (some dx)))) : rOst K f (.ref a) y H Q :=
  ⟨a, C, rfl, T, n, .inl ⟨h, q⟩⟩
theorem ost_old_ok {K : Frag} {f : Str} {a C dx : Addr} {y : V} {fs : List (Str × V)} {H : Hp} {Q : Hp → Prop} (T : OexC K C) (n : PySem.W.findIn K (.ref C) f = some none) (h : H a = some (exo a C (some dx))) (h2 : H dx = some (exd dx fs)) (hl : fs.length ≤ 900) (q : Q (upd H dx (exd dx ((f, y) :: fs)))) : rOst K f (.ref a) y H Q :=
  ⟨a, C, rfl, T, n, .inr ⟨dx, fs, h, h2, hl, q⟩⟩
theorem sc_BadStretch_init : FnScope ["self", "begin", "end"] ["self", "begin", "end"] (defScope s_BadStretch_init) := ⟨rfl, rfl, rfl, by decide +kernel, rfl, by decide +kernel, by decide +kernel⟩
theorem b_BadStretch_init {K : Frag} {mg : Str → Option Value} (c : Wd K mg) : Binds K (fdOf K (mA K "BadStretch" "__init__")) ["self", "begin", "end"] [] := c.f_BadStretch_init.binds (fun _ _ _ _ _ _ us hl => match us, hl with | [_, _, _], _ => rfl)
theorem ok_BadStretch_init {P : Program} {w : World} {K : Frag} {mg : Str → Option Value} {base : Heap} (c : Wd K mg) : FnOk P w K mg base (L2.CX P w) 1 (mA K "BadStretch" "__init__") (fdOf K (mA K "BadStretch" "__init__")) ["self", "begin", "end"] (sp_X2 (gA K "BadStretch") "begin" "end") := by
  refine c.f_BadStretch_init.okX sc_BadStretch_init (fun vs H Q E h => ?_) (fun cdv A outer s H vs Q E hr h => ⟨_, PSs.nox (pss_cons (ps_ost (pv 0) (pv 1) rfl)
      (pss_one (ps_ost (pv 0) (pv 2) rfl))), ?_⟩)
  · obtain ⟨a, u, v, rfl, ha, hQ⟩ := h
    rfl
  obtain ⟨a, u, v, rfl, ha, hQ⟩ := h
  walk_at "wp"
  refine ost_new_ok c.ox_BadStretch c.on_BadStretch_begin ha fun d hd hne => ?_
  walk_at "wp"
  exact ost_old_ok c.ox_BadStretch c.on_BadStretch_end upd_same (by rw [upd_ne hne, upd_same]) (by show 1 ≤ 900; decide) (hQ d hd hne)
theorem sc_OutOfWindow_init : FnScope ["self", "begin", "end"] ["self", "begin", "end"] (defScope s_OutOfWindow_init) := ⟨rfl, rfl, rfl, by decide +kernel, rfl, by decide +kernel, by decide +kernel⟩
theorem b_OutOfWindow_init {K : Frag} {mg : Str → Option Value} (c : Wd K mg) : Binds K (fdOf K (mA K "OutOfWindow" "__init__")) ["self", "begin", "end"] [] := c.f_OutOfWindow_init.binds (fun _ _ _ _ _ _ us hl => match us, hl with | [_, _, _], _ => rfl)
theorem ok_OutOfWindow_init {P : Program} {w : World} {K : Frag} {mg : Str → Option Value} {base : Heap} (c : Wd K mg) : FnOk P w K mg base (L2.CX P w) 1 (mA K "OutOfWindow" "__init__") (fdOf K (mA K "OutOfWindow" "__init__")) ["self", "begin", "end"] (sp_X2 (gA K "OutOfWindow") "begin" "end") := by
  refine c.f_OutOfWindow_init.okX sc_OutOfWindow_init (fun vs H Q E h => ?_) (fun cdv A outer s H vs Q E hr h => ⟨_, PSs.nox (pss_cons (ps_ost (pv 0) (pv 1) rfl)
      (pss_one (ps_ost (pv 0) (pv 2) rfl))), ?_⟩)
  · obtain ⟨a, u, v, rfl, ha, hQ⟩ := h
    rfl
  obtain ⟨a, u, v, rfl, ha, hQ⟩ := h
  walk_at "wp"
  refine ost_new_ok c.ox_OutOfWindow c.on_OutOfWindow_begin ha fun d hd hne => ?_
  walk_at "wp"
  exact ost_old_ok c.ox_OutOfWindow c.on_OutOfWindow_end upd_same (by rw [upd_ne hne, upd_same]) (by show 1 ≤ 900; decide) (hQ d hd hne)
theorem sc_TooLong_init : FnScope ["self", "length"] ["self", "length"] (defScope s_TooLong_init) := ⟨rfl, rfl, rfl, by decide +kernel, rfl, by decide +kernel, by decide +kernel⟩
theorem b_TooLong_init {K : Frag} {mg : Str → Option Value} (c : Wd K mg) : Binds K (fdOf K (mA K "TooLong" "__init__")) ["self", "length"] [] := c.f_TooLong_init.binds (fun _ _ _ _ _ _ us hl => match us, hl with | [_, _], _ => rfl)
theorem ok_TooLong_init {P : Program} {w : World} {K : Frag} {mg : Str → Option Value} {base : Heap} (c : Wd K mg) : FnOk P w K mg base (L2.CX P w) 1 (mA K "TooLong" "__init__") (fdOf K (mA K "TooLong" "__init__")) ["self", "length"] (sp_X1 (gA K "TooLong") "length") := by
  refine c.f_TooLong_init.okX sc_TooLong_init (fun vs H Q E h => ?_) (fun cdv A outer s H vs Q E hr h => ⟨_, PSs.nox (pss_one (ps_ost (pv 0) (pv 1) rfl)), ?_⟩)
  · obtain ⟨a, u, rfl, ha, hQ⟩ := h
    rfl
  obtain ⟨a, u, rfl, ha, hQ⟩ := h
  walk_at "wp"
  exact ost_new_ok c.ox_TooLong c.on_TooLong_length ha fun d hd hne => hQ d hd hne
theorem sc_BadSigns_init : FnScope ["self", "index"] ["self", "index"] (defScope s_BadSigns_init) := ⟨rfl, rfl, rfl, by decide +kernel, rfl, by decide +kernel, by decide +kernel⟩
theorem b_BadSigns_init {K : Frag} {mg : Str → Option Value} (c : Wd K mg) : Binds K (fdOf K (mA K "BadSigns" "__init__")) ["self", "index"] [] := c.f_BadSigns_init.binds (fun _ _ _ _ _ _ us hl => match us, hl with | [_, _], _ => rfl)
theorem ok_BadSigns_init {P : Program} {w : World} {K : Frag} {mg : Str → Option Value} {base : Heap} (c : Wd K mg) : FnOk P w K mg base (L2.CX P w) 1 (mA K "BadSigns" "__init__") (fdOf K (mA K "BadSigns" "__init__")) ["self", "index"] (sp_X1 (gA K "BadSigns") "index") := by
  refine c.f_BadSigns_init.okX sc_BadSigns_init (fun vs H Q E h => ?_) (fun cdv A outer s H vs Q E hr h => ⟨_, PSs.nox (pss_one (ps_ost (pv 0) (pv 1) rfl)), ?_⟩)
  · obtain ⟨a, u, rfl, ha, hQ⟩ := h
    rfl
  obtain ⟨a, u, rfl, ha, hQ⟩ := h
  walk_at "wp"
  exact ost_new_ok c.ox_BadSigns c.on_BadSigns_index ha fun d hd hne => hQ d hd hne
theorem mko2 {C : Addr} {f1 f2 : Str} {u v : V} {H : Hp} {Q : XK} (q : ∀ d H', H d = none → Ex H H' → H' d = some (.xd [(f2, v), (f1, u)]) → Q (.ref C) (some d) H') :
    rMkO C (fun a H2 Q2 => sp_X2 C f1 f2 (.ref a :: ([u, v] ++ [])) H2 Q2 (fun _ _ _ => False)) [u, v] H Q := by
  refine ⟨by show 2 ≤ 1000; decide, fun a ha => ⟨a, u, v, rfl, upd_same, fun d hd hne => ⟨rfl, d, _, ?_, upd_same, ?_, ?_⟩⟩⟩
  · rw [upd_ne (Ne.symm hne), upd_same]
  · rw [upd_ne hne] at hd; exact hd
  · have hdH : H d = none := by rw [upd_ne hne] at hd; exact hd
    refine q d _ hdH (fun b o hb => ?_) upd_same
    have h1 : b ≠ d := ne_of_none hb hdH
    have h2 : b ≠ a := ne_of_none hb ha
    rw [upd_ne h1, del_ne h2, upd_ne h1, upd_ne h2, upd_ne h1, upd_ne h2]
    exact hb
theorem mko1 {C : Addr} {f1 : Str} {u : V} {H : Hp} {Q : XK} (q : ∀ d H', H d = none → Ex H H' → H' d = some (.xd [(f1, u)]) → Q (.ref C) (some d) H') :
    rMkO C (fun a H2 Q2 => sp_X1 C f1 (.ref a :: ([u] ++ [])) H2 Q2 (fun _ _ _ => False)) [u] H Q := by
  refine ⟨by show 1 ≤ 1000; decide, fun a ha => ⟨a, u, rfl, upd_same, fun d hd hne => ⟨rfl, d, _, upd_same, by rw [upd_ne hne, upd_same], ?_, ?_⟩⟩⟩
  · rw [upd_ne hne] at hd; exact hd
  · have hdH : H d = none := by rw [upd_ne hne] at hd; exact hd
    refine q d _ hdH (fun b o hb => ?_) upd_same
    have h1 : b ≠ d := ne_of_none hb hdH
    have h2 : b ≠ a := ne_of_none hb ha
    rw [upd_ne h1, del_ne h2, upd_ne h2, upd_ne h1, upd_ne h2]
    exact hb
/-- how a raise is wished -/
def Xw (E : XK) (C : Addr) (fs : List (Str × V)) (H : Hp) : Prop := ∀ d H', H d = none → Ex H H' → H' d = some (.xd fs) → E (.ref C) (some d) H'
def sp_check_stretch (K : Frag) : Sp := fun vs H Q E => ∃ b e : Int, vs = [.int b, .int e] ∧ (b ≤ e → Q .non H) ∧ (e < b → Xw E (gA K "BadStretch") [("end", .int e), ("begin", .int b)] H)
theorem sc_check_stretch : FnScope ["begin", "end"] ["begin", "end"] (defScope s_check_stretch) := ⟨rfl, rfl, rfl, by decide +kernel, rfl, by decide +kernel, by decide +kernel⟩
theorem b_check_stretch {K : Frag} {mg : Str → Option Value} (c : Wd K mg) : Binds K (fdOf K (gA K "check_stretch")) ["begin", "end"] [] := c.f_check_stretch.binds (fun _ _ _ _ _ _ us hl => match us, hl with | [_, _], _ => rfl)
theorem ok_check_stretch {P : Program} {w : World} {K : Frag} {mg : Str → Option Value} {base : Heap} (c : Wd K mg) : FnOk P w K mg base (L2.CX P w) 3 (gA K "check_stretch") (fdOf K (gA K "check_stretch")) ["begin", "end"] (sp_check_stretch K) := by
  refine c.f_check_stretch.okX sc_check_stretch (fun vs H Q E h => ?_) (fun cdv A outer s H vs Q E hr h => ⟨_, (pss_one (ps_if (pt_cmpR op_lt (pv 1) (pv 0) (nomark _)) (pss_one (ps_raise rfl (takes_of rfl rfl rfl rfl) (pmk_oex c.ox_BadStretch c.oi_BadStretch c.ot_BadStretch (ok_BadStretch_init c) (hr.mono (by decide)) (b_BadStretch_init c) .nil passL rfl c.g_BadStretch (pa_cons (pv 0) (pa_cons (pv 1) pa_nil))))) pss_nil)), ?_⟩)
  · obtain ⟨b, e, rfl, hQ, hE⟩ := h
    rfl
  obtain ⟨b, e, rfl, hQ, hE⟩ := h
  walk_at "wp"
  split <;> rename_i h
  · exact mko2 (hE h)
  · exact hQ (by omega)
def sp_check_window (K : Frag) : Sp := fun vs H Q E => ∃ b e : Int, vs = [.int b, .int e] ∧ (b ≤ e → e - b ≤ 5 → Q .non H) ∧ (e < b → Xw E (gA K "BadStretch") [("end", .int e), ("begin", .int b)] H) ∧ (b ≤ e → 5 < e - b → Xw E (gA K "TooLong") [("length", .int (e - b))] H)
theorem sc_check_window : FnScope ["begin", "end"] ["begin", "end"] (defScope s_check_window) := ⟨rfl, rfl, rfl, by decide +kernel, rfl, by decide +kernel, by decide +kernel⟩
theorem b_check_window {K : Frag} {mg : Str → Option Value} (c : Wd K mg) : Binds K (fdOf K (gA K "check_window")) ["begin", "end"] [] := c.f_check_window.binds (fun _ _ _ _ _ _ us hl => match us, hl with | [_, _], _ => rfl)
theorem ok_check_window {P : Program} {w : World} {K : Frag} {mg : Str → Option Value} {base : Heap} (c : Wd K mg) : FnOk P w K mg base (L2.CX P w) 4 (gA K "check_window") (fdOf K (gA K "check_window")) ["begin", "end"] (sp_check_window K) := by
  refine c.f_check_window.okX sc_check_window (fun vs H Q E h => ?_) (fun cdv A outer s H vs Q E hr h => ⟨_, (pss_cons (ps_expr (pe_callS (ok_check_stretch c) (hr.mono (by decide)) rfl c.g_check_stretch c.f_check_stretch.kp (b_check_stretch c) (fun σ => passAt (takes_of rfl rfl rfl rfl) σ) (pa_cons (pv 0) (pa_cons (pv 1) pa_nil))))
      (pss_one (ps_if (pt_cmpR op_gt (pe_op op_sub (pv 1) (pv 0)) (pe_num rfl c.k_MOST_WINDOW) (nomark _)) (pss_one (ps_raise rfl (takes_of rfl rfl rfl rfl) (pmk_oex c.ox_TooLong c.oi_TooLong c.ot_TooLong (ok_TooLong_init c) (hr.mono (by decide)) (b_TooLong_init c) .nil passL rfl c.g_TooLong (pa_cons (pe_op op_sub (pv 1) (pv 0)) pa_nil)))) pss_nil))), ?_⟩)
  · obtain ⟨b, e, rfl, hQ, hE, hL⟩ := h
    rfl
  obtain ⟨b, e, rfl, hQ, hE, hL⟩ := h
  walk_at "wp"
  refine ⟨b, e, rfl, fun h => ?_, fun h => ?_⟩
  · walk_at "wp"
    split <;> rename_i h2
    · exact mko1 (hL h h2)
    · exact hQ h (by omega)
  · exact hE h
end DR

set_option Elab.async false
set_option linter.all false
set_option maxRecDepth 100000
set_option maxHeartbeats 4000000
namespace DR
open PySem PySem.Spec PyProof.Rows L2
open PySem.W (Frag)
local macro_rules
  | `(tactic| walk_at "wp") => `(tactic| try simp only [L2.start, List.map_cons, List.map_nil, List.length_cons, List.length_nil, List.replicate, Nat.reduceAdd, Nat.reduceSub, List.cons_append, List.nil_append, List.append_nil, List.set_cons_succ, List.set_cons_zero,
      List.getElem?_cons_succ, List.getElem?_cons_zero, ap_K1, ap_K2, ap_seq, ap_next, ap_asg, ap_name, ap_ret, ap_retN, ap_drop, ap_ifS, ap_c, ap_var, ap_op, ap_un, ap_chain, ap_test, ap_B, ap_and, ap_or, ap_not, ap_yes, ap_andV, ap_orV, ap_notV, ap_if, ap_nil, ap_cons, ap_cb, ap_lst, ap_tup, ap_bm, ap_bm0, ap_m1, ap_call, ap_sl, ap_part, ap_nopart, ap_rI0, ap_rI, ap_rU, ap_eqI, ap_neI, ap_eqS, ap_neS, ap_eqB, ap_neB, ap_fld, ap_tup_, ap_gcons, ap_gnil, ap_gsub, ap_for, ap_lc, ap_rng1, ap_rng2, ap_list, ap_itup, ap_str, ap_enum, ap_zip, ap_inSg, ap_ninSg, ap_addS, ap_sfld, ap_meth, ap_prop, ap_make, ap_smeth, ap_never, ap_ost, ap_callS, ap_mko, ap_enumS, ap_zipS, ap_rng3, ap_listRg, ap_rg1, ap_cval, len_abcdef, exists_and_left, exists_and_right, exists_eq_left', and_assoc, exists_eq_left, exists_eq, exists_eq', Option.some.injEq, V.int.injEq, V.str.injEq, V.ref.injEq, V.bl.injEq, V.ty.injEq, List.cons.injEq, and_true, true_and, decide_eq_true_eq, Bool.not_eq_true', decide_eq_false_iff_not, Bool.false_eq_true, if_true, if_false, reduceCtorEq, false_and, and_false, or_false, false_or, or_true, true_or, not_true_eq_false, not_false_eq_true, Int.zero_add, lit_nil, lit_a, tx_len, one_tx, tx_app, tx_inj, exists_const, forall_const])
  | `(tactic| walk_at "om") => `(tactic| repeat (refine ⟨by first | omega | exact szI, ?_⟩))

def sp_check_text (K : Frag) : Sp := fun vs H Q _ => ∃ t : List Nat, vs = [.str (tx t)] ∧ okT t = true ∧ ∀ H', Ex H H' → Q .non H'
theorem sc_check_text : FnScope ["text", "used", "index", "letter"] ["text"] (defScope s_check_text) := ⟨rfl, rfl, rfl, by decide +kernel, rfl, by decide +kernel, by decide +kernel⟩
theorem b_check_text {K : Frag} {mg : Str → Option Value} (c : Wd K mg) : Binds K (fdOf K (gA K "check_text")) ["text"] [] := c.f_check_text.binds (fun _ _ _ _ _ _ us hl => match us, hl with | [_], _ => rfl)
theorem ok_check_text {P : Program} {w : World} {K : Frag} {mg : Str → Option Value} {base : Heap} (c : Wd K mg) : FnOk P w K mg base (L2.CX P w) 1 (gA K "check_text") (fdOf K (gA K "check_text")) ["text"] (sp_check_text K) := by
  refine c.f_check_text.okX sc_check_text (fun vs H Q E h => ?_) (fun cdv A outer s H vs Q E hr h => ⟨_, PSs.nox (pss_cons (ps_if (pt_not (pt_chain op_le op_le pe_int (pe_callB call_len_str (by rfl) c.z_len (by decide +kernel) (pa_cons (pv 0) pa_nil)) (pe_callB call_len_str (by rfl) c.z_len (by decide +kernel) (pa_cons (pe_txt rfl c.k_LETTERS_coatrules) pa_nil)))) (pss_one ps_never) pss_nil)
      (pss_cons (ps_set (i := 1) sc_check_text.nd rfl (Or.inl rfl) pe_int)
      (pss_one (ps_for PassesOwn.never rfl (pi_enumS (by rfl) c.z_enumerate (pa_cons (pv 0) pa_nil)) (pg_tup (n := 2) rfl (pgs_cons (pg_name (i := 2) sc_check_text.nd rfl (Or.inl rfl)) (pgs_cons (pg_name (i := 3) sc_check_text.nd rfl (Or.inl rfl)) pgs_nil))) (pss_one (ps_if (pt_cmpR op_eq (pv 3) (pe_ix ix_str (pe_txt rfl c.k_LETTERS_coatrules) (pv 1) (fun _ _ => rfl)) (nomark _)) (pss_one (ps_set (i := 1) sc_check_text.nd rfl (Or.inl rfl) (pe_op op_add (pv 1) pe_int))) (pss_one (ps_if (pt_cmpR op_ninSg (pv 3) (pe_slice sl_str (pe_txt rfl c.k_LETTERS_coatrules) po_none (po_some (pv 1))) rfl) (pss_one ps_never) pss_nil)))))))), ?_⟩)
  · obtain ⟨t, rfl, hok, hQ⟩ := h
    rfl
  obtain ⟨t, rfl, hok, hQ⟩ := h
  obtain ⟨h1, h2, h3⟩ := okT_iff.mp hok
  walk_at "wp"
  refine ⟨szI, ?_⟩
  walk_at "wp"
  rw [if_pos (by omega)]
  walk_at "wp"
  refine ⟨by decide, ?_⟩
  walk_at "wp"
  rw [if_neg (by omega)]
  walk_at "wp"
  refine lp_it walk_enumS (fun i σ' H' => ∃ x y, σ' = [some (.str (tx t)), some (.int (usedAt t i : Nat)), x, y] ∧ Ex H H') ⟨_, _, rfl, Evl.Ex.refl _⟩ (fun _ _ _ _ _ => trivial) ?_ ?_
  · rintro i v σ' H1 H' hi ⟨x, y, rfl, hx⟩ ⟨T, rfl, hT, rfl⟩
    have hx2 := hx.trans (Evl.Ex.new (o := .tup [.int (i : Nat), .str (tx [t.getD i 0])]) hT)
    have hu := usedAt_le t i
    have hus := usedAt_succ t i
    walk_at "wp"
    refine ⟨_, Evl.st_of upd_same, ?_⟩
    walk_at "wp"
    refine ix_abc (usedAt t i) rfl (by omega) ?_
    walk_at "wp"
    split <;> rename_i h
    · rw [if_pos h] at hus
      exact ⟨by rw [hus]; omega, hx2⟩
    · rw [if_neg h] at hus
      rw [lit_abcdef]
      refine slS_ok (by simp) ?_
      rw [cutS_take]
      walk_at "wp"
      rw [if_neg]
      · exact ⟨by rw [hus], hx2⟩
      · rw [mem_abc (by omega)]
        have := h3 i hi
        omega
  · rintro σ' H' ⟨x, y, rfl, hx⟩
    walk_at "wp"
    exact hQ H' hx
def sp_check_window_size (K : Frag) : Sp := fun vs H Q _ => ∃ n : Nat, vs = [.int n] ∧ n ≤ 5 ∧ Q .non H
theorem sc_check_window_size : FnScope ["places"] ["places"] (defScope s_check_window_size) := ⟨rfl, rfl, rfl, by decide +kernel, rfl, by decide +kernel, by decide +kernel⟩
theorem b_check_window_size {K : Frag} {mg : Str → Option Value} (c : Wd K mg) : Binds K (fdOf K (gA K "check_window_size")) ["places"] [] := c.f_check_window_size.binds (fun _ _ _ _ _ _ us hl => match us, hl with | [_], _ => rfl)
theorem ok_check_window_size {P : Program} {w : World} {K : Frag} {mg : Str → Option Value} {base : Heap} (c : Wd K mg) : FnOk P w K mg base (L2.CX P w) 1 (gA K "check_window_size") (fdOf K (gA K "check_window_size")) ["places"] (sp_check_window_size K) := by
  refine c.f_check_window_size.okX sc_check_window_size (fun vs H Q E h => ?_) (fun cdv A outer s H vs Q E hr h => ⟨_, PSs.nox (pss_one (ps_if (pt_not (pt_chain op_le op_le pe_int (pv 0) (ClX.pe_cval (pe_cls rfl c.g_Coat)))) (pss_one ps_never) pss_nil)), ?_⟩)
  · obtain ⟨n, rfl, hn, hQ⟩ := h
    rfl
  obtain ⟨n, rfl, hn, hQ⟩ := h
  walk_at "wp"
  rw [if_pos (by omega)]
  obtain ⟨cr, u, cv⟩ := c.cv_MOST
  refine ⟨gA K "Coat", .type "type", .int 5, u, rfl, cr, cv, ?_⟩
  walk_at "wp"
  rw [if_neg (by omega)]
  exact hQ
def sp_Coat_init (K : Frag) : Sp := fun vs H Q _ => ∃ (x dx : Addr) (t : List Nat), vs = [.ref x, .str (tx t)] ∧ H x = some (.ins (gA K "Coat") dx []) ∧ okT t = true ∧ ∀ H', ExB x H H' → CoatAt K H' x t → Q .non H'
theorem sc_Coat_init : FnScope ["self", "text"] ["self", "text"] (defScope s_Coat_init) := ⟨rfl, rfl, rfl, by decide +kernel, rfl, by decide +kernel, by decide +kernel⟩
theorem b_Coat_init {K : Frag} {mg : Str → Option Value} (c : Wd K mg) : Binds K (fdOf K (mA K "Coat" "__init__")) ["self", "text"] [] := c.f_Coat_init.binds (fun _ _ _ _ _ _ us hl => match us, hl with | [_, _], _ => rfl)
theorem ok_Coat_init {P : Program} {w : World} {K : Frag} {mg : Str → Option Value} {base : Heap} (c : Wd K mg) : FnOk P w K mg base (L2.CX P w) 2 (mA K "Coat" "__init__") (fdOf K (mA K "Coat" "__init__")) ["self", "text"] (sp_Coat_init K) := by
  refine c.f_Coat_init.okX sc_Coat_init (fun vs H Q E h => ?_) (fun cdv A outer s H vs Q E hr h => ⟨_, PSs.nox (pss_cons (ps_expr (pe_call (ok_check_text c) (hr.mono (by decide)) rfl c.g_check_text c.f_check_text.kp (b_check_text c) .nil passL (pa_cons (pv 1) pa_nil)))
      (pss_cons (ps_fld (pv 0) (pv 1) rfl)
      (pss_one (ps_fld (pv 0) (pe_callTy call_tupleV (by rfl) c.z_tuple (by decide +kernel) (pa_cons (pe_call (ok_before_of_text c) (hr.mono (by decide)) rfl c.g_before_of_text c.f_before_of_text.kp (b_before_of_text c) .nil passL (pa_cons (pv 1) pa_nil)) pa_nil)) rfl)))), ?_⟩)
  · obtain ⟨x, dx, t, rfl, hx, hok, hQ⟩ := h
    rfl
  obtain ⟨x, dx, t, rfl, hx, hok, hQ⟩ := h
  obtain ⟨h1, h2, h3⟩ := okT_iff.mp hok
  walk_at "wp"
  refine ⟨t, rfl, hok, fun H1 e1 => ?_⟩
  walk_at "wp"
  refine sfld_ok (e1 _ _ hx) c.c_Coat c.a_Coat_text (by decide) ?_
  walk_at "wp"
  refine ⟨t, rfl, by omega, fun p H2 hp e2 hp2 => ?_⟩
  walk_at "wp"
  refine tup_l (Evl.sq_of hp2) fun b hb => ?_
  walk_at "wp"
  have hx2 := e2 _ _ (upd_same (H := H1) (a := x) (o := .ins (gA K "Coat") dx (putF "_text" (.str (tx t)) [])))
  have hbx : x ≠ b := ne_of_none hx2 hb
  have hpf : putF "_before" (.ref b) (putF "_text" (.str (tx t)) []) = ([("_text", .str (tx t)), ("_before", .ref b)] : List (Str × V)) := by
    rw [putF_nil, putF_ne (by decide +kernel), putF_nil]
  refine sfld_ok (by rw [upd_ne hbx]; exact hx2) c.c_Coat c.a_Coat_before (by show 1 < 1000; decide) (hQ _ (fun a o ha he => ?_) ⟨dx, b, by rw [upd_same, hpf], ?_⟩)
  · have h4 : upd H1 x (.ins (gA K "Coat") dx (putF "_text" (.str (tx t)) [])) a = some o := by rw [upd_ne ha]; exact e1 _ _ he
    have h5 := e2 _ _ h4
    rw [upd_ne ha, upd_ne (ne_of_none h5 hb)]
    exact h5
  · exact Evl.st_of (by rw [upd_ne (Ne.symm hbx), upd_same])
theorem mk_coat {K : Frag} {t : List Nat} {H : Hp} {Q : VK} {E : XK} (hok : okT t = true) (q : ∀ p H', H p = none → Ex H H' → CoatAt K H' p t → Q (.ref p) H') :
    rMake (gA K "Coat") (fun x H2 => sp_Coat_init K (.ref x :: ([.str (tx t)] ++ [])) H2 (fun v H3 => v = .non ∧ Q (.ref x) H3) E) H := by
  intro x dx hx hdx hne
  refine ⟨x, dx, t, rfl, upd_same, hok, fun H' e h => ⟨rfl, q x H' hx (fun a o ha => ?_) h⟩⟩
  have h1 : a ≠ x := ne_of_none ha hx
  exact e a o h1 (by rw [upd_ne h1, upd_ne (ne_of_none ha hdx)]; exact ha)
def sp_Coat_plain (K : Frag) : Sp := fun vs H Q _ => ∃ n : Nat, vs = [.int n] ∧ n ≤ 5 ∧ okT (plainT n) = true ∧ ∀ p H', H p = none → Ex H H' → CoatAt K H' p (plainT n) → Q (.ref p) H'
theorem sc_Coat_plain : FnScope ["places"] ["places"] (defScope s_Coat_plain) := ⟨rfl, rfl, rfl, by decide +kernel, rfl, by decide +kernel, by decide +kernel⟩
theorem b_Coat_plain {K : Frag} {mg : Str → Option Value} (c : Wd K mg) : Binds K (fdOf K (sA K "Coat" "plain")) ["places"] [] := c.f_Coat_plain.binds (fun _ _ _ _ _ _ us hl => match us, hl with | [_], _ => rfl)
theorem ok_Coat_plain {P : Program} {w : World} {K : Frag} {mg : Str → Option Value} {base : Heap} (c : Wd K mg) : FnOk P w K mg base (L2.CX P w) 4 (sA K "Coat" "plain") (fdOf K (sA K "Coat" "plain")) ["places"] (sp_Coat_plain K) := by
  refine c.f_Coat_plain.okX sc_Coat_plain (fun vs H Q E h => ?_) (fun cdv A outer s H vs Q E hr h => ⟨_, PSs.nox (pss_cons (ps_expr (pe_call (ok_check_window_size c) (hr.mono (by decide)) rfl c.g_check_window_size c.f_check_window_size.kp (b_check_window_size c) .nil passL (pa_cons (pv 0) pa_nil)))
      (pss_one (ps_ret (pe_make c.mk_Coat (ok_Coat_init c) (hr.mono (by decide)) rfl c.g_Coat (b_Coat_init c) .nil passL (pa_cons (pe_op op_mul_str (pe_ix ix_str (pe_txt rfl c.k_LETTERS_coatrules) pe_int (fun _ _ => rfl)) (pe_op op_add (pv 0) pe_int)) pa_nil))))), ?_⟩)
  · obtain ⟨n, rfl, hn, hok, hQ⟩ := h
    rfl
  obtain ⟨n, rfl, hn, hok, hQ⟩ := h
  walk_at "wp"
  refine ⟨n, rfl, hn, ?_⟩
  walk_at "wp"
  refine ix_abc 0 rfl (by omega) ?_
  walk_at "wp"
  refine mulS_a (n := n) (by omega) (by omega) ?_
  exact mk_coat hok hQ
theorem CoatAt.text {K : Frag} {mg : Str → Option Value} {H : Hp} {Q : VK} {a : Addr} {t : List Nat} (c : Wd K mg) (h : CoatAt K H a t) (q : Q (.str (tx t)) H) : rFld K "_text" (.ref a) H Q := by
  obtain ⟨dx, b, h1, h2⟩ := h
  exact fld_ok h1 c.c_Coat c.a_Coat_text (by rfl) q
theorem CoatAt.before {K : Frag} {mg : Str → Option Value} {H : Hp} {Q : VK} {a : Addr} {t : List Nat} (c : Wd K mg) (h : CoatAt K H a t) (q : ∀ b, SqT K H b ((beforeOfText t).map V.int) → Q (.ref b) H) : rFld K "_before" (.ref a) H Q := by
  obtain ⟨dx, b, h1, h2⟩ := h
  exact fld_ok h1 c.c_Coat c.a_Coat_before (by rfl) (q b h2)
def sp_Coat_text (K : Frag) : Sp := fun vs H Q _ => ∃ (a : Addr) (t : List Nat), vs = [.ref a] ∧ CoatAt K H a t ∧ Q (.str (tx t)) H
theorem sc_Coat_text : FnScope ["self"] ["self"] (defScope s_Coat_text) := ⟨rfl, rfl, rfl, by decide +kernel, rfl, by decide +kernel, by decide +kernel⟩
theorem b_Coat_text {K : Frag} {mg : Str → Option Value} (c : Wd K mg) : Binds K (fdOf K (mA K "Coat" "text")) ["self"] [] := c.f_Coat_text.binds (fun _ _ _ _ _ _ us hl => match us, hl with | [_], _ => rfl)
theorem ok_Coat_text {P : Program} {w : World} {K : Frag} {mg : Str → Option Value} {base : Heap} (c : Wd K mg) : FnOk P w K mg base (L2.CX P w) 1 (mA K "Coat" "text") (fdOf K (mA K "Coat" "text")) ["self"] (sp_Coat_text K) := by
  refine c.f_Coat_text.okX sc_Coat_text (fun vs H Q E h => ?_) (fun cdv A outer s H vs Q E hr h => ⟨_, PSs.nox (pss_one (ps_ret (pe_fld (pv 0) rfl))), ?_⟩)
  · obtain ⟨a, t, rfl, h, hQ⟩ := h
    rfl
  obtain ⟨a, t, rfl, h, hQ⟩ := h
  walk_at "wp"
  exact h.text c hQ
def sp_Coat_places (K : Frag) : Sp := fun vs H Q _ => ∃ (a : Addr) (t : List Nat), vs = [.ref a] ∧ CoatAt K H a t ∧ Q (.int ((t.length - 1 : Nat) : Int)) H
theorem sc_Coat_places : FnScope ["self"] ["self"] (defScope s_Coat_places) := ⟨rfl, rfl, rfl, by decide +kernel, rfl, by decide +kernel, by decide +kernel⟩
theorem b_Coat_places {K : Frag} {mg : Str → Option Value} (c : Wd K mg) : Binds K (fdOf K (pA K "Coat" "places")) ["self"] [] := c.f_Coat_places.binds (fun _ _ _ _ _ _ us hl => match us, hl with | [_], _ => rfl)
theorem ok_Coat_places {P : Program} {w : World} {K : Frag} {mg : Str → Option Value} {base : Heap} (c : Wd K mg) : FnOk P w K mg base (L2.CX P w) 1 (pA K "Coat" "places") (fdOf K (pA K "Coat" "places")) ["self"] (sp_Coat_places K) := by
  refine c.f_Coat_places.okX sc_Coat_places (fun vs H Q E h => ?_) (fun cdv A outer s H vs Q E hr h => ⟨_, PSs.nox (pss_one (ps_ret (pe_callB call_lenV (by rfl) c.z_len (by decide +kernel) (pa_cons (pe_fld (pv 0) rfl) pa_nil)))), ?_⟩)
  · obtain ⟨a, t, rfl, h, hQ⟩ := h
    rfl
  obtain ⟨a, t, rfl, h, hQ⟩ := h
  walk_at "wp"
  refine h.before c fun b hb => len_t hb (by rw [List.length_map, beforeOfText_len]) hQ
theorem CoatAt.prop {K : Frag} {H : Hp} {P : Addr → Prop} {a : Addr} {t : List Nat} (h : CoatAt K H a t) (q : P a) : rProp (gA K "Coat") (.ref a) H P := by
  obtain ⟨dx, b, h1, h2⟩ := h
  exact prop_ok h1 q
def sp_check_like (K : Frag) : Sp := fun vs H Q _ => ∃ (a b : Addr) (s t : List Nat), vs = [.ref a, .ref b] ∧ CoatAt K H a s ∧ CoatAt K H b t ∧ s.length = t.length ∧ Q .non H
theorem sc_check_like : FnScope ["first", "second"] ["first", "second"] (defScope s_check_like) := ⟨rfl, rfl, rfl, by decide +kernel, rfl, by decide +kernel, by decide +kernel⟩
theorem b_check_like {K : Frag} {mg : Str → Option Value} (c : Wd K mg) : Binds K (fdOf K (gA K "check_like")) ["first", "second"] [] := c.f_check_like.binds (fun _ _ _ _ _ _ us hl => match us, hl with | [_, _], _ => rfl)
theorem ok_check_like {P : Program} {w : World} {K : Frag} {mg : Str → Option Value} {base : Heap} (c : Wd K mg) : FnOk P w K mg base (L2.CX P w) 3 (gA K "check_like") (fdOf K (gA K "check_like")) ["first", "second"] (sp_check_like K) := by
  refine c.f_check_like.okX sc_check_like (fun vs H Q E h => ?_) (fun cdv A outer s H vs Q E hr h => ⟨_, PSs.nox (pss_one (ps_if (pt_cmpR op_ne (pe_prop (pv 0) c.c_Coat c.p_Coat_places (ok_Coat_places c) (hr.mono (by decide)) (b_Coat_places c) .nil passL rfl) (pe_prop (pv 1) c.c_Coat c.p_Coat_places (ok_Coat_places c) (hr.mono (by decide)) (b_Coat_places c) .nil passL rfl) (nomark _)) (pss_one ps_never) pss_nil)), ?_⟩)
  · obtain ⟨a, b, s', t, rfl, ha, hb, hl, hQ⟩ := h
    rfl
  obtain ⟨a, b, s', t, rfl, ha, hb, hl, hQ⟩ := h
  walk_at "wp"
  refine ha.prop ⟨a, s', rfl, ha, ?_⟩
  walk_at "wp"
  refine hb.prop ⟨b, t, rfl, hb, ?_⟩
  walk_at "wp"
  rw [if_neg (by rw [hl]; simp)]
  exact hQ
def sp_Coat_mul (K : Frag) : Sp := fun vs H Q _ => ∃ (a b : Addr) (s t : List Nat), vs = [.ref a, .ref b] ∧ CoatAt K H a s ∧ CoatAt K H b t ∧ s.length = t.length ∧ s.length ≤ 6 ∧ okT (mulT s t) = true ∧ ∀ p H', H p = none → Ex H H' → CoatAt K H' p (mulT s t) → Q (.ref p) H'
theorem sc_Coat_mul : FnScope ["self", "other"] ["self", "other"] (defScope s_Coat_mul) := ⟨rfl, rfl, rfl, by decide +kernel, rfl, by decide +kernel, by decide +kernel⟩
theorem b_Coat_mul {K : Frag} {mg : Str → Option Value} (c : Wd K mg) : Binds K (fdOf K (mA K "Coat" "__mul__")) ["self", "other"] [] := c.f_Coat_mul.binds (fun _ _ _ _ _ _ us hl => match us, hl with | [_, _], _ => rfl)
theorem ok_Coat_mul {P : Program} {w : World} {K : Frag} {mg : Str → Option Value} {base : Heap} (c : Wd K mg) : FnOk P w K mg base (L2.CX P w) 4 (mA K "Coat" "__mul__") (fdOf K (mA K "Coat" "__mul__")) ["self", "other"] (sp_Coat_mul K) := by
  refine c.f_Coat_mul.okX sc_Coat_mul (fun vs H Q E h => ?_) (fun cdv A outer s H vs Q E hr h => ⟨_, PSs.nox (pss_cons (ps_expr (pe_call (ok_check_like c) (hr.mono (by decide)) rfl c.g_check_like c.f_check_like.kp (b_check_like c) .nil passL (pa_cons (pv 0) (pa_cons (pv 1) pa_nil))))
      (pss_one (ps_ret (pe_make c.mk_Coat (ok_Coat_init c) (hr.mono (by decide)) rfl c.g_Coat (b_Coat_init c) .nil passL (pa_cons (pe_call (ok_text_of_before c) (hr.mono (by decide)) rfl c.g_text_of_before c.f_text_of_before.kp (b_text_of_before c) .nil passL (pa_cons (pe_call (ok_product_before c) (hr.mono (by decide)) rfl c.g_product_before c.f_product_before.kp (b_product_before c) .nil passL (pa_cons (pe_fld (pv 0) rfl) (pa_cons (pe_fld (pv 1) rfl) pa_nil))) pa_nil)) pa_nil))))), ?_⟩)
  · obtain ⟨a, b, s', t, rfl, ha, hb, hl, hsz, hok, hQ⟩ := h
    rfl
  obtain ⟨a, b, s', t, rfl, ha, hb, hl, hsz, hok, hQ⟩ := h
  walk_at "wp"
  refine ⟨a, b, s', t, rfl, ha, hb, hl, ?_⟩
  walk_at "wp"
  refine ha.before c fun b1 hb1 => hb.before c fun b2 hb2 => ?_
  refine ⟨b1, b2, _, _, rfl, hb1, hb2, by rw [beforeOfText_len, beforeOfText_len, hl], by rw [beforeOfText_len]; omega, fun p H1 hp e1 hp1 => ?_⟩
  walk_at "wp"
  refine ⟨p, _, rfl, Evl.sq_of hp1, by rw [productBefore_len, beforeOfText_len]; omega, productBefore_le _ _, ?_⟩
  exact mk_coat hok fun p' H2 hp' e2 h2 => hQ p' H2 (Evl.fresh_back e1 hp') (e1.trans e2) h2
theorem CoatAt.tyx {K : Frag} {mg : Str → Option Value} {H : Hp} {a : Addr} {t : List Nat} (c : Wd K mg) (h : CoatAt K H a t) : TyX K H (.ref a) (.ref (gA K "Coat")) := by
  obtain ⟨dx, b, h1, h2⟩ := h
  obtain ⟨t1, t2⟩ := He.ba c.ty_Coat
  obtain ⟨t3, t4⟩ := He.ba (show tyG K = true from c.ok2 10 rfl)
  exact .base (.ins h1 c.c_Coat (of_decide_eq_true t1) (of_decide_eq_true t3) (of_decide_eq_true t4) (of_decide_eq_true t2))
def sp_Coat_eq (K : Frag) : Sp := fun vs H Q _ => ∃ (a b : Addr) (s t : List Nat), vs = [.ref a, .ref b] ∧ CoatAt K H a s ∧ CoatAt K H b t ∧ Q (.bl (decide (s = t))) H
theorem sc_Coat_eq : FnScope ["self", "other"] ["self", "other"] (defScope s_Coat_eq) := ⟨rfl, rfl, rfl, by decide +kernel, rfl, by decide +kernel, by decide +kernel⟩
theorem b_Coat_eq {K : Frag} {mg : Str → Option Value} (c : Wd K mg) : Binds K (fdOf K (mA K "Coat" "__eq__")) ["self", "other"] [] := c.f_Coat_eq.binds (fun _ _ _ _ _ _ us hl => match us, hl with | [_, _], _ => rfl)
theorem ok_Coat_eq {P : Program} {w : World} {K : Frag} {mg : Str → Option Value} {base : Heap} (c : Wd K mg) : FnOk P w K mg base (L2.CX P w) 1 (mA K "Coat" "__eq__") (fdOf K (mA K "Coat" "__eq__")) ["self", "other"] (sp_Coat_eq K) := by
  refine c.f_Coat_eq.okX sc_Coat_eq (fun vs H Q E h => ?_) (fun cdv A outer s H vs Q E hr h => ⟨_, PSs.nox (pss_one (ps_ret (pe_and (pe_callB call_isi (by rfl) c.z_isinstance (by decide +kernel) (pa_cons (pv 1) (pa_cons (pe_cls rfl c.g_Coat) pa_nil))) (pe_one (pe_cmpR op_eq (pe_fld (pv 0) rfl) (pe_fld (pv 1) rfl) (nomark _)))))), ?_⟩)
  · obtain ⟨a, b, s', t, rfl, ha, hb, hQ⟩ := h
    rfl
  obtain ⟨a, b, s', t, rfl, ha, hb, hQ⟩ := h
  walk_at "wp"
  refine ⟨.ref b, .ref (gA K "Coat"), _, _, true, rfl, .own _, hb.tyx c, c.is_Coat_Coat, ?_⟩
  walk_at "wp"
  refine ha.text c (hb.text c ?_)
  walk_at "wp"
  exact hQ
def sp_Coat_count (K : Frag) : Sp := fun vs H Q _ => ∃ (a : Addr) (t : List Nat) (b e : Nat), vs = [.ref a, .int b, .int e] ∧ CoatAt K H a t ∧ b ≤ e ∧ e ≤ t.length - 1 ∧ t.length ≤ 50 ∧ Q (.int (countIn (beforeOfText t) b e)) H
theorem sc_Coat_count : FnScope ["self", "begin", "end"] ["self", "begin", "end"] (defScope s_Coat_count) := ⟨rfl, rfl, rfl, by decide +kernel, rfl, by decide +kernel, by decide +kernel⟩
theorem b_Coat_count {K : Frag} {mg : Str → Option Value} (c : Wd K mg) : Binds K (fdOf K (mA K "Coat" "count")) ["self", "begin", "end"] [] := c.f_Coat_count.binds (fun _ _ _ _ _ _ us hl => match us, hl with | [_, _, _], _ => rfl)
theorem ok_Coat_count {P : Program} {w : World} {K : Frag} {mg : Str → Option Value} {base : Heap} (c : Wd K mg) : FnOk P w K mg base (L2.CX P w) 4 (mA K "Coat" "count") (fdOf K (mA K "Coat" "count")) ["self", "begin", "end"] (sp_Coat_count K) := by
  refine c.f_Coat_count.okX sc_Coat_count (fun vs H Q E h => ?_) (fun cdv A outer s H vs Q E hr h => ⟨_, PSs.nox (pss_cons (ps_expr (pe_call (ok_check_stretch c) (hr.mono (by decide)) rfl c.g_check_stretch c.f_check_stretch.kp (b_check_stretch c) .nil passL (pa_cons (pv 1) (pa_cons (pv 2) pa_nil))))
      (pss_cons (ps_if (PW.pt (pw_or (pt_cmpR op_lt (pv 1) pe_int (nomark _)) (pw_or1 (pt_cmpR op_gt (pv 2) (pe_callB call_lenV (by rfl) c.z_len (by decide +kernel) (pa_cons (pe_fld (pv 0) rfl) pa_nil)) (nomark _))))) (pss_one ps_never) pss_nil)
      (pss_one (ps_ret (pe_call (ok_count_in c) (hr.mono (by decide)) rfl c.g_count_in c.f_count_in.kp (b_count_in c) .nil passL (pa_cons (pe_fld (pv 0) rfl) (pa_cons (pv 1) (pa_cons (pv 2) pa_nil)))))))), ?_⟩)
  · obtain ⟨a, t, b, e, rfl, ha, hbe, het, hsz, hQ⟩ := h
    rfl
  obtain ⟨a, t, b, e, rfl, ha, hbe, het, hsz, hQ⟩ := h
  walk_at "wp"
  refine ⟨b, e, rfl, fun _ => ?_, fun h => absurd h (by omega)⟩
  walk_at "wp"
  rw [if_neg (by omega)]
  refine ha.before c fun b1 hb1 => len_t hb1 rfl ?_
  rw [List.length_map, beforeOfText_len]
  walk_at "wp"
  rw [if_neg (by omega)]
  refine ha.before c fun b2 hb2 => ⟨b2, _, b, e, rfl, hb2, hbe, by rw [beforeOfText_len]; omega, by rw [beforeOfText_len]; omega, hQ⟩
end DR

set_option Elab.async false
set_option linter.all false
set_option maxRecDepth 100000
set_option maxHeartbeats 4000000
/-! more rules: own operators by name, kinds' own __iter__ and list(kinds), targets that are fields -/
namespace DR
open PySem PySem.Spec PyProof.Rows L2
open PySem.W (Frag)
section
variable {X : Cx} {CX : CXT} {k : Nat} {f C : Addr} {fd : FuncData} {ps : List Str} {sp : Sp} {E : XK}
theorem op_own2n {op : Operator} {m : Str} (hd : PySem.dunder op.info.2 = m) (F : FnOk X.prog X.w X.K X.mg X.base CX k f fd ps sp) (hr : Room k X.A) (hb : Binds X.K fd ps []) (hx : Passes CX X E) (hc : PySem.W.selfFirst X.K C = true) (M : Meth X.K C m f) : OpR X (binaryOp op) (rOwn2 C sp E) := by
  subst hd
  exact op_own2 F hr hb hx hc M.at_ M.fn
theorem op_ownEqM (F : FnOk X.prog X.w X.K X.mg X.base CX k f fd ps sp) (hr : Room k X.A) (hb : Binds X.K fd ps []) (hx : Passes CX X E) (M : Meth X.K C "__eq__" f) : OpR X (compareOp .Eq) (rOwn2 C sp E) := op_ownEq F hr hb hx M.at_ M.fn
theorem un_ownInvM (F : FnOk X.prog X.w X.K X.mg X.base CX k f fd ps sp) (hr : Room k X.A) (hb : Binds X.K fd ps []) (hx : Passes CX X E) (M : Meth X.K C "__invert__" f) : UnR X (unaryOp .Invert) (rOwn1 C sp E) := un_ownInv F hr hb hx M.at_ M.fn
theorem call_lenOwnM (F : FnOk X.prog X.w X.K X.mg X.base CX k f fd ps sp) (hr : Room (k + 1) X.A) (hb : Binds X.K fd ps []) (hx : Passes CX X E) (M : Meth X.K C "__len__" f) : CallR X (.builtin "len") (rLenOwn C sp E) := call_lenOwn F hr hb hx M.at_ M.fn
theorem fnIn_of {K : Frag} {x q : Str} {st : Stmt} {f : Addr} {fd : FuncData} (F : Fun K x q st f fd) : PySem.W.fnIn K f = true := by
  obtain ⟨oc, od, kV, doc, pm, an, cdv, ct, osl, hfd, lk, hcd⟩ := F.ex
  unfold PySem.W.fnIn
  rw [lk]
end
/-! ### self.f as a target -/
def gFld (K : Frag) (ta : TE) (f : Str) : TG := fun v σ H Q => ta σ H fun x H2 => rSFld K f x v H2 (Q σ)
theorem pg_fld {X : Cx} {o : Expr} {f : Str} {pos : Pos} {ta : TE} (ha : PE X o ta) : PG X (.Attribute o f pos) (gFld X.K ta f) := by
  refine ⟨fun pins s σ H v u Q I r hw => ?_⟩
  refine PySem.W.kas_attr (thn (ha.run pins s σ H _ I hw) fun ov s2 ⟨x, H2, I2, rx, a, C, dx, fs, ex, ea, c, n, l, q2⟩ => ?_)
  subst ex
  obtain rfl : ov = Value.ref a := rx
  exact setattr_ok I2 ea c n l r fun s3 I3 => ⟨σ, _, I3, q2⟩
/-! ### a def whose promise may tell how young its value is -/
def FnN (P : Program) (w : World) (K : Frag) (mg : Str → Option Value) (base : Heap) (k : Nat) (f : Addr) (fd : FuncData) (ps : List Str) (sp : Nat → Sp) : Prop :=
  ∀ (n : Nat) (A : Around) (outer : List Env) (s : Shared) (H : Hp) (args : Args) (us : List Value) (vs : List V) (Q : VK) (E : XK), n ≤ s.heap.objs.size → Room k A → Env0 P w K mg base A outer s H → BindsTo s fd args (ps.zip us) → Vals vs us → sp n vs H Q E →
    codeAny (model P w) A (.call (.ref f) args) (CR (L2.CX P w) outer P w H s Q E) s
def spIt (K : Frag) (n : Nat) : Sp := fun vs H Q _ => ∃ (a dx l : Addr) (fs : List (Str × V)) (zs : List V), vs = [.ref a] ∧ H a = some (.ins (gA K "Kinds") dx fs) ∧ fs.lookup ("_coats" : Str) = some (.ref l) ∧ SqL K H l zs ∧ ∀ it, H it = none → n ≤ it → Q (.ref it) (upd H it (ItO l it 0))
theorem sc_Kinds_iter : FnScope ["self"] ["self"] (defScope s_Kinds_iter) := ⟨rfl, rfl, rfl, by decide +kernel, rfl, by decide +kernel, by decide +kernel⟩
theorem b_Kinds_iter {K : Frag} {mg : Str → Option Value} (c : Wd K mg) : Binds K (fdOf K (mA K "Kinds" "__iter__")) ["self"] [] := c.f_Kinds_iter.binds (fun _ _ _ _ _ _ us hl => match us, hl with | [_], _ => rfl)
theorem okN_Kinds_iter {P : Program} {w : World} {K : Frag} {mg : Str → Option Value} {base : Heap} (c : Wd K mg) : FnN P w K mg base 2 (mA K "Kinds" "__iter__") (fdOf K (mA K "Kinds" "__iter__")) ["self"] (spIt K) := by
  intro n A outer s H args us vs Q E hns hr e0 hb r hsp
  obtain ⟨oc, od, kV, doc, pm, an, cdv, ct, osl, hfd, lk, hcd⟩ := c.f_Kinds_iter.ex
  rw [hfd] at hb lk
  have S := sc_Kinds_iter
  have hl : vs.length = ["self"].length := by obtain ⟨_, _, _, _, _, rfl, _⟩ := hsp; rfl
  have KX : K.In s.heap := e0.mod.kin.keeps fun b o e => (e0.bs b o e).1
  have lim : s.heap.NoLimit := e0.mod.nolimit.keeps fun b o e => (e0.bs b o e).1
  have hkind : ∀ y ∈ ([("self" : Str)] : List Str).zip us, (defScope s_Kinds_iter).names.lookup y.1 = some .local ∨ ((defScope s_Kinds_iter).names.lookup y.1 = some .cell ∧ ((cellsFrom (s.heap.objs.size + 1) (defScope s_Kinds_iter).names []).lookup y.1).isSome = true) := fun ⟨n, v⟩ hy => by
    rcases S.par n (List.of_mem_zip hy).1 with q | q
    · exact .inl q
    · exact .inr ⟨q, PySem.W.cellsFrom_some _ _ _ (.inl q)⟩
  refine codeAny_call_function hr.depth (KX _ _ lk) rfl S.co S.gen rfl (PySem.W.codeRec_of KX hcd) (hb _ _ _ _ ?_)
  refine wpAny_newFunctionEnv_cells S.kind hkind fun env he s1 x => ?_
  subst he
  refine ⟨lim.keeps x.toInCall.keep, codeAny_func ?_⟩
  have ht : PSs (cxOf (L2.CX P w) P w K mg base ["self"] "Kinds.__iter__" (defScope s_Kinds_iter) (mA K "Kinds" "__iter__") cdv A outer s H E).nox (defBody s_Kinds_iter) _ :=
    pss_one (ps_ret (pe_callB ItX.call_iterN (by rfl) c.z_iter (by decide +kernel) (pa_cons (pe_fld (pv 0) rfl) pa_nil)))
  have I : Inv (cxOf (L2.CX P w) P w K mg base ["self"] "Kinds.__iter__" (defScope s_Kinds_iter) (mA K "Kinds" "__iter__") cdv A outer s H E) [] (L2.start ["self"] vs) H s1 := inv_start S hr.hd e0 hl r x
  have hq : (tRet (tCB (ItX.rIterN K s.heap.objs.size) (tCons (tFld K (tVar 0) "_coats") tNil))) { nx := fun _ H' => Q .non H', rt := Q } (L2.start ["self"] vs) H := by
    obtain ⟨a, dx, l, fs, zs, rfl, ha, hlk, hS, hQ⟩ := hsp
    exact ⟨_, rfl, a, _, dx, fs, _, rfl, ha, c.c_Kinds, c.a_Kinds_coats, hlk, l, zs, rfl, hS, fun it hit hle => hQ it hit (Nat.le_trans hns hle)⟩
  refine wpAny_mono (ht.nox.run [] s1 (L2.start ["self"] vs) H _ I hq) (fun fl s' hs => ?_) fun e s' hs => hs
  have fin : ∀ {σ' : L2.St} {H' : Hp} {v : V} {u : Value}, Inv (cxOf (L2.CX P w) P w K mg base ["self"] "Kinds.__iter__" (defScope s_Kinds_iter) (mA K "Kinds" "__iter__") cdv A outer s H E) [] σ' H' s' → RelV v u → Q v H' → CE outer P w H s Q u s' :=
    fun {σ' H' v u} J rv q => ⟨v, H', J.os, J.bare, J.base, J.hok, rv, q⟩
  cases fl with
  | ret u =>
    obtain ⟨v, σ', H', J, rv, q⟩ := hs
    exact fin J rv q
  | next =>
    obtain ⟨σ', H', J, q⟩ := hs
    exact fin (v := V.non) (u := Value.none) J rfl q
  | brk =>
    obtain ⟨_, _, _, q⟩ := hs
    exact False.elim q
  | cont =>
    obtain ⟨_, _, _, q⟩ := hs
    exact False.elim q
/-- iter(o), o an instance of Kinds: the iterator stands alone -/
theorem kinds_iter {X : Cx} {A : Around} {pins : List (Addr × Obj)} {σ : L2.St} {H : Hp} {s : Shared} {a dx l : Addr} {fs : List (Str × V)} {zs : List V} {Q : Value → Shared → Prop} (c : Wd X.K X.mg) (hr : Room 2 A) (hA : A.frames = X.A.frames) (I : Inv X pins σ H s)
    (ha : H a = some (.ins (gA X.K "Kinds") dx fs)) (hlk : fs.lookup ("_coats" : Str) = some (.ref l)) (hS : SqL X.K H l zs) (M : Meth X.K (gA X.K "Kinds") "__iter__" (mA X.K "Kinds" "__iter__"))
    (q : ∀ it s', Inv X pins σ H s' → FpOk X pins H it → s'.heap.IsListIter it l 0 → Q (.ref it) s') : wpAny (model X.prog X.w) A (pyIter (.ref a)) Q X.xe s := by
  obtain ⟨mA', J, _⟩ := ins_get I.hok ha
  obtain ⟨od, J, _⟩ := J.look
  obtain ⟨m, hF⟩ := I.fr
  refine PySem.W.owit_iter hF I.ok.mod.kin J M.at_ M.fn ?_
  have e0 : Env0 X.prog X.w X.K X.mg X.base A X.stack s H := by
    have e := I.env0
    exact ⟨by rw [hA]; exact e.frames, e.mod, e.bs, e.bsz, e.funs, e.frf, e.hok, e.bare⟩
  have hb' := b_Kinds_iter c s [.ref a] I.kIn rfl
  rw [List.append_nil] at hb'
  refine wpAny_call (codeAny_mono (okN_Kinds_iter (P := X.prog) (w := X.w) (base := X.base) c X.s_0.heap.objs.size A X.stack s H ⟨[.ref a], []⟩ [.ref a] [.ref a] (fun v H' => ∃ it, v = .ref it ∧ H it = none ∧ X.s_0.heap.objs.size ≤ it ∧ H' = upd H it (ItO l it 0)) E0 I.sz hr e0 hb' (.cons rfl .nil)
    ⟨a, dx, l, fs, zs, rfl, ha, hlk, hS, fun it hit hle => ⟨it, rfl, hit, hle, rfl⟩⟩) fun r s' hq => ?_)
  cases r with
  | error e => exact passL pins σ H s e s' I hq
  | ok fl =>
    cases fl with
    | next => exact False.elim hq
    | brk => exact False.elim hq
    | cont => exact False.elim hq
    | ret u =>
      obtain ⟨v, H', I', rv, it, rfl, hit, hle, rfl⟩ := I.after hq
      cases rv
      have eo := itO_get I' upd_same
      have st : s'.heap.IsListIter it l 0 := ⟨_, eo, rfl, rfl⟩
      have hd : upd H it (ItO l it 0) it = some (.ext fun h => h.get? it = some (GNX.itObj l 0)) := upd_same
      have I2 := ItX.inv_drop I' hd
      have F2 := ItX.inv_fp I' hd hle
      rw [ItX.dropH_upd hit] at I2 F2
      unfold PySem.W.OwitIt
      refine wpAny_specialOf (name := Str.ofString "__next__") (T := "list_iterator") ⟨_, eo, rfl⟩ slot_listiter_next.lookup ?_
      exact q it s' I2 F2 st
def rKinds (K : Frag) (x : V) (H : Hp) (R : Addr → List V → Prop) : Prop := ∃ (a dx l : Addr) (fs : List (Str × V)) (zs : List V), x = .ref a ∧ H a = some (.ins (gA K "Kinds") dx fs) ∧ fs.lookup ("_coats" : Str) = some (.ref l) ∧ SqL K H l zs ∧ R l zs
def iKinds (K : Frag) (te : TE) : TI := fun σ H R => te σ H fun x H1 => rKinds K x H1 fun l _ => R (Itl K l) H1
theorem pi_kinds {X : Cx} {tg e : Expr} {te : TE} (c : Wd X.K X.mg) (hr : Room 2 X.A) (M : Meth X.K (gA X.K "Kinds") "__iter__" (mA X.K "Kinds" "__iter__")) (he : PE X e te) : PI X tg e (iKinds X.K te) := by
  refine ⟨fun pins s σ H R I h => ?_⟩
  refine thn (he.run pins s σ H _ I h) fun v s1 ⟨x, H1, I1, r1, a, dx, l, fs, zs, ex, ha, hlk, hS, q⟩ => ?_
  subst ex
  cases r1
  refine kinds_iter c hr rfl I1 ha hlk hS M fun it s' I2 F2 st => ?_
  exact ⟨it, [it], _, _, H1, rfl, I2, turn_list l it, st, fun b hb => by
    have e : b = it := by simpa using hb
    rw [e]
    exact F2, q⟩
end DR

set_option Elab.async false
set_option linter.all false
set_option maxRecDepth 100000
set_option maxHeartbeats 4000000
/-! list(kinds) -/
namespace DR
open PySem PySem.Spec PyProof.Rows L2
open PySem.W (Frag)
section
variable {X : Cx} {pins : List (Addr × Obj)} {σ : L2.St} {H : Hp} {A1 : Around} {q it l : Addr} {zs : List V}
theorem kinds_loop {Rs : Result → Shared → Prop} (hh : A1.handled = none) (hz : zs.length ≤ 1000) (hS : SqL X.K H l zs) (hlq : l ≠ q) (F : FpOk X pins (upd H q (.lst [])) it) (hdone : ∀ s, Inv X pins σ (upd H q (.lst zs)) s → Rs (.ok (.ret .none)) s) :
    ∀ (k i : Nat) (s : Shared), zs.length - i = k → i ≤ zs.length → Inv X pins σ (upd H q (.lst (zs.take i))) s → s.heap.IsListIter it l i → codeAny (model X.prog X.w) A1 (.builtin "list.extend.loop" ⟨[.ref q, .ref it, .none], []⟩) Rs s := by
  have hsz : (1001 : Nat) ≤ sizeLine := by decide
  obtain ⟨f0, f1, f2, f3, f4, f5⟩ := F
  have hiq : it ≠ q := by rintro rfl; rw [upd_same] at f0; cases f0
  have hit0 : H it = none := by rw [upd_ne hiq] at f0; exact f0
  intro k
  induction k with
  | zero =>
    intro i s hk hi I st
    have hin : i = zs.length := by omega
    subst hin
    rw [List.take_length] at I
    refine codeAny_builtin PySem.F.entry_extend_loop ?_
    rw [Around.under_plainId PySem.F.plain_extend_loop _]
    show wpAny _ A1.in1 (pyNext (.ref it) >>= _) _ _ s
    obtain ⟨its, rv, pl, _⟩ := I.list (SqL_mut hlq hS)
    have e := rv.length
    refine wpAny_bind (wpAny_pyNext_list_end (A := A1.in1) hh st pl.isList (by simp; omega) fun h' he' => ?_)
    exact wpAny_pure (hdone _ (I.turned (t' := s.toks) (fun b o hb z => he' b o hb z) (by rw [upd_ne hiq]; exact hit0) f1 f3 f4 f5))
  | succ k ih =>
    intro i s hk hi I st
    have hlt : i < zs.length := by omega
    refine codeAny_builtin PySem.F.entry_extend_loop ?_
    rw [Around.under_plainId PySem.F.plain_extend_loop _]
    show wpAny _ A1.in1 (pyNext (.ref it) >>= _) _ _ s
    obtain ⟨its, rv, pl, _⟩ := I.list (SqL_mut hlq hS)
    obtain ⟨u, hu, ru⟩ := rv.get (List.getElem?_eq_getElem hlt)
    refine wpAny_bind (wpAny_pyNext_list_item (A := A1.in1) st pl.isList (x := u) (by simpa using hu) fun h' hit' hs' => ?_)
    have I' := I.turned (t' := s.toks) (h' := h') (fun b o hb z => hs'.extBut b o hb z) (by rw [upd_ne hiq]; exact hit0) f1 f3 f4 f5
    show wpAny _ A1.in1 (updateSeq q (·.push u) >>= _) _ _ _
    obtain ⟨z, its2, n2, r2, hl2, e2⟩ := I'.lstM upd_same
    have hlen : its2.length ≤ 1000 := by rw [← hl2, List.length_take]; omega
    have hlt2 : l ≠ it := by
      rintro rfl
      rcases hS with (h | ⟨o, h⟩) | h
      · rw [hit0] at h; cases h
      · rw [hit0] at h; cases h
      · obtain ⟨o, _, _, h1, h2, _⟩ := h
        have h3 := I.kIn _ _ h1
        obtain ⟨o', h4, h5, _⟩ := st
        rw [h3] at h4
        cases h4
        rw [h2] at h5
        exact absurd h5 (by decide)
    refine wpAny_bind (wpAny_updateSeq e2 rfl (wpAny_pure ⟨plainId_quiet PySem.F.plain_extend_loop _, ?_⟩) (by rw [List.size_toArray]; omega) (by show (its2.toArray.push u).size ≤ sizeLine + 1; rw [Array.size_push, List.size_toArray]; omega))
    have I2 := I'.lset (its' := its2 ++ [u]) (t' := s.toks) (f := (·.push u)) upd_same e2 (by simp) (r2.append (.cons ru .nil)) (by rw [List.length_append, List.length_singleton, List.length_take]; omega)
    rw [upd_upd] at I2
    have ht : zs.take (i + 1) = zs.take i ++ [zs[i]] := by rw [List.take_add_one, List.getElem?_eq_getElem hlt]; rfl
    rw [← ht] at I2
    refine ih (i + 1) _ (by omega) hlt I2 ?_
    exact hit'.at fun o z => (Heap.get?_update_other _ _ (fun h => hiq h.symm)).trans z
end
theorem hint_len {M : Model} {A : Around} {E : Value → Shared → Prop} {s : Shared} {ox : Obj} {od : Option Obj} {K : Frag} {C a f : Addr} {Q : Bool → Shared → Prop} (hK : K.In s.heap) (J : PySem.W.InstAt s.heap a ox C od) (hl : PySem.W.findIn K (.ref C) "__len__" = some (some (.ref f)))
    (h : wpAny M A (call (.builtin "len") [.ref a]) (fun v s' => ∃ (n : Nat) (t : Tok), n ≤ 1000 ∧ v = .int n t ∧ ∀ b, Q b s') (fun _ _ => False) s) : wpAny M A (Builtin.List.listLengthHint (.ref a)) Q E s := by
  unfold Builtin.List.listLengthHint
  refine wpAny_bind (wpAny_bind (J.type.here ((PySem.W.looks_findIn hK hl).here ?_)))
  refine PySem.W.KFB.if_not rfl ?_
  refine PySem.W.KFB.if_so rfl ?_
  refine wpAny_bind (wpAny_rule ?_)
  refine wpAny_bind (wpAny_attempt (wpAny_mono h (fun v s' hv => ?_) fun _ _ z => z.elim))
  obtain ⟨n, t, hn, rfl, q⟩ := hv
  refine wpAny_bind (m := asInt? _) (wpAny_pure ?_)
  have hsz : (1001 : Nat) ≤ sizeLine := by decide
  refine PySem.W.KFB.if_not ?_ (wpAny_pure (q _))
  show decide (_ > sizeLine) = false
  exact decide_eq_false (by rw [Int.toNat_natCast]; omega)
def rListK (K : Frag) : List V → Hp → VK → Prop := fun xs H Q => ∃ (a dx l : Addr) (fs : List (Str × V)) (zs : List V), xs = [.ref a] ∧ H a = some (.ins (gA K "Kinds") dx fs) ∧ fs.lookup ("_coats" : Str) = some (.ref l) ∧ SqL K H l zs ∧ zs.length ≤ 1000 ∧ ∀ q, H q = none → Q (.ref q) (upd H q (.lst zs))
def sp_Kinds_len (K : Frag) : Sp := fun vs H Q _ => ∃ (a dx l : Addr) (fs : List (Str × V)) (zs : List V), vs = [.ref a] ∧ H a = some (.ins (gA K "Kinds") dx fs) ∧ fs.lookup ("_coats" : Str) = some (.ref l) ∧ SqL K H l zs ∧ Q (.int (zs.length : Int)) H
theorem call_listKinds {X : Cx} {fd : FuncData} {f : Addr} {ps : List Str} {k : Nat} (c : Wd X.K X.mg) (hr : Room (k + 6) X.A) (hk : 2 ≤ k) (MI : Meth X.K (gA X.K "Kinds") "__iter__" (mA X.K "Kinds" "__iter__")) (ML : Meth X.K (gA X.K "Kinds") "__len__" f)
    (FL : FnOk X.prog X.w X.K X.mg X.base (L2.CX X.prog X.w) k f fd ps (sp_Kinds_len X.K)) (bL : Binds X.K fd ps []) : CallR X (.type "list") (rListK X.K) := by
  intro pins s σ H xs us Q I rv h
  obtain ⟨a, dx, l, fs, zs, rfl, ha, hlk, hS, hz, hq⟩ := h
  obtain ⟨u, rfl, ru⟩ := rv.one
  cases ru
  refine callType_codes (Q₁ := fun obj s₁ => obj = .ref s.heap.objs.size ∧ s₁ = { s with heap := s.heap.push { cls := .type "list", data := .seq #[] } }) PySem.F.called_list (PySem.F.typeCall_list_1 _) PySem.F.entry_list_init
    (code_list_new _ ⟨rfl, rfl⟩) fun obj s₁ h₁ => ?_
  obtain ⟨rfl, rfl⟩ := h₁
  have hS0 : (s.heap.push { cls := .type "list", data := .seq #[] }).get? s.heap.objs.size = some { cls := .type "list", data := .seq #[] } := Heap.get?_push_size _ rfl
  refine ⟨⟨_, hS0, rfl⟩, PySem.F.args_list_init_2 _ _, ?_⟩
  have fr : H s.heap.objs.size = none := I.hok.fresh (Nat.le_refl _)
  obtain ⟨its0, rv0, pl0, _⟩ := I.list hS
  have hlq : l ≠ s.heap.objs.size := Nat.ne_of_lt pl0.lt
  have I1 : Inv X pins σ (upd H s.heap.objs.size (.lst [])) { s with heap := s.heap.push { cls := .type "list", data := .seq #[] } } := I.lnew (its := []) (t' := s.toks) .nil (Nat.zero_le _)
  show wpAny _ _ (do let old ← Builtin.List.listItems (.ref s.heap.objs.size); Builtin.List.listUpdate (.ref s.heap.objs.size) (fun _ => #[]); letGo old.toList.reverse; Builtin.List.listExtendWith (.ref s.heap.objs.size) (.ref a) .none) _ _ _
  refine wpAny_bind ?_
  unfold Builtin.List.listItems
  refine wpAny_bind (wpAny_seqItems hS0 rfl (wpAny_pure ?_))
  show wpAny _ _ (updateSeq s.heap.objs.size (fun _ => #[]) >>= fun _ => letGo (#[] : Array Value).toList.reverse >>= fun _ => Builtin.List.listExtendWith (.ref s.heap.objs.size) (.ref a) .none) _ _ _
  refine wpAny_bind (wpAny_updateSeq hS0 rfl ?_)
  have I2 := I1.lset (f := fun _ => #[]) (its := []) (its' := []) (ys := []) (t' := s.toks) upd_same hS0 rfl .nil (Nat.zero_le _)
  rw [upd_upd] at I2
  refine wpAny_bind (wpAny_letGo ?_)
  generalize s.heap.objs.size = q at *
  have ha2 : upd H q (.lst []) a = some (.ins (gA X.K "Kinds") dx fs) := by rw [upd_ne (ne_of_none ha fr)]; exact ha
  have hne : q ≠ a := Ne.symm (ne_of_none ha fr)
  revert I2
  generalize ({ heap := Heap.update _ q _, gens := _, drawn := _, toks := _, os := _ } : Shared) = s2
  intro I2
  obtain ⟨mA', J, _⟩ := ins_get I2.hok ha2
  obtain ⟨od, J, _⟩ := J.look
  unfold Builtin.List.listExtendWith
  refine wpAny_bind (J.type.here ?_)
  have h1 : Builtin.List.listSameRef (.ref q) (.ref a) = false := by simp [Builtin.List.listSameRef, hne]
  have h2 : (Value.ref (gA X.K "Kinds") == Value.type "list") = false := rfl
  have h3 : (Value.ref (gA X.K "Kinds") == Value.type "tuple") = false := rfl
  simp only [h1, h2, h3, Bool.or_false, Bool.false_eq_true, if_false]
  have hSq : SqL X.K (upd H q (.lst [])) l zs := SqL_mut hlq hS
  refine wpAny_bind (kinds_iter (A := X.A.in1.in1) c (hr.mono (by omega) : Room (2 + 1 + 1) X.A).in1.in1 rfl I2 ha2 hlk hSq MI fun it s3 I3 F3 st3 => ?_)
  obtain ⟨mA3, J3, _⟩ := ins_get I3.hok ha2
  obtain ⟨od3, J3, _⟩ := J3.look
  -- the loop
  have loop : ∀ s', Inv X pins σ (upd H q (.lst [])) s' → s'.heap.IsListIter it l 0 → codeAny (model X.prog X.w) X.A.in1 (.builtin "list.extend.loop" ⟨[.ref q, .ref it, .none], []⟩) (wants (fun r s₂ => r = .none ∧ EP X pins σ Q (.ref q) s₂) X.xe) s' := fun s' I' st' =>
    kinds_loop (A1 := X.A.in1) hr.hd hz hS hlq F3 (fun s4 I4 => ⟨rfl, .ref q, _, I4, rfl, hq q fr⟩) zs.length 0 s' (by omega) (Nat.zero_le _) (by simpa using I') st'
  refine wpAny_bind (wpAny_holding (hint_len I3.kIn J3 ML.at_ ?_))
  obtain ⟨m3, hF3⟩ := I3.fr
  refine PySem.W.len_K hF3 I3.ok.mod.kin J3 ML.at_ ML.fn ?_
  obtain ⟨o3, ho3, hc3, hd3⟩ := id st3
  have I4 := I3.pinned (fp := [it]) (fun b hb => by
    have e : b = it := by simpa using hb
    rw [e]; exact F3) (fun b hb => by
    have e : b = it := by simpa using hb
    rw [e]; exact ⟨o3, ho3, fun v z => by rw [hd3] at z; cases z⟩)
  have hmem : (it, o3) ∈ pinsAt [it] s3.heap := mem_pinsAt (by simp) ho3
  refine wpAny_mono (run_fnA (X := X.nox) (vs := [.ref a]) (Q := fun v H' => v = .int (zs.length : Int) ∧ H' = upd H q (.lst [])) (E := E0) FL (hr.mono (by omega) : Room (k + 1 + 1 + 1) X.A).in1.in1.in1 rfl bL passL (I4.wish _) (.cons rfl .nil) ⟨a, dx, l, fs, zs, rfl, ha2, hlk, hSq, ⟨rfl, rfl⟩⟩) (fun v s4 hv => ?_) fun _ _ z => z.elim
  obtain ⟨x, H', I5, rx, rfl, rfl⟩ := hv
  obtain ⟨t, rfl⟩ := (show ∃ t, v = Value.int (zs.length : Int) t from rx)
  have I6 : Inv X (pins ++ pinsAt [it] s3.heap) σ (upd H q (.lst [])) s4 := I5.unwish
  have hp := (I6.pin (it, o3) (List.mem_append_right _ (List.mem_append_right _ hmem))).1
  have st4 : s4.heap.IsListIter it l 0 := ⟨o3, hp, hc3, hd3⟩
  have I7 := I6.unpinned
  refine ⟨⟨by omega, by omega⟩, zs.length, _, hz, rfl, fun b => ?_⟩
  have I7 := I7.tok (s4.toks + 1)
  refine wpAny_ite_split (fun _ => ?_) (fun _ => wpAny_pure ⟨plainId_quiet PySem.F.plain_extend_loop _, loop _ I7 st4⟩)
  refine wpAny_bind (wpAny_rule ?_)
  refine wpAny_bind ?_
  show wpAny _ _ (updateSeq q (·.push .none) >>= fun _ => updateSeq q (·.pop)) _ _ _
  obtain ⟨z, its, kk, r3, hl3, e3⟩ := I7.lstM upd_same
  cases r3
  have hiq : it ≠ q := by
    rintro rfl
    have := F3.1
    rw [upd_same] at this
    cases this
  refine wpAny_bind (wpAny_updateSeq e3 rfl ?_)
  have I8 := I7.lset (f := (·.push Value.none)) (its' := [Value.none]) (ys := [.non]) (t' := s4.toks + 1) upd_same e3 (by simp) (.cons rfl .nil) (by rw [List.length_singleton, sizeLine_eq]; decide)
  rw [upd_upd] at I8
  obtain ⟨z4, its4, k4, r4, hl4, e4⟩ := I8.lstM upd_same
  obtain ⟨u4, rfl, ru4⟩ := r4.one
  refine wpAny_updateSeq e4 rfl ?_ (by show 1 ≤ sizeLine; rw [sizeLine_eq]; decide) (by show 0 ≤ sizeLine + 1; exact Nat.zero_le _)
  have I9 := I8.lset (f := (·.pop)) (its := [u4]) (its' := []) (ys := []) (t' := s4.toks + 1) upd_same e4 (by rfl) .nil (Nat.zero_le _)
  rw [upd_upd] at I9
  refine wpAny_pure ⟨plainId_quiet PySem.F.plain_extend_loop _, loop _ I9 ?_⟩
  exact (st4.at fun o z => (Heap.get?_update_other _ _ (fun h => hiq h.symm)).trans z).at fun o z => (Heap.get?_update_other _ _ (fun h => hiq h.symm)).trans z
end DR

set_option Elab.async false
set_option linter.all false
set_option maxRecDepth 100000
set_option maxHeartbeats 4000000
/-! list.extend of a tuple, len(set(text)) -/
namespace PySem
namespace AutoSeq1
open PySem PyProof.Rows
set_option maxRecDepth 8000 in
theorem dr_extend_tuple (l : Addr) (items : Array Value) (n : Nat) (b : Addr) (items2 : Array Value) (n2 : Nat) (dd : Option Addr) (sl : Array (Option Value)) (hs0 : ¬(!items.isEmpty && Builtin.List.listTooLong (items.size + items2.size)) = true) (hs1 : items.size ≤ sizeLine) (hs2 : items.size + items2.size ≤ sizeLine + 1) :
    Meets (Builtin.«list.extend» ⟨[.ref l, .ref b], []⟩) (fun _ R s => s.heap.get? l = some { cls := .type "list", dict := none, data := .seq items n, slots := #[] } ∧ s.heap.get? b = some { cls := .type "tuple", dict := dd, data := .seq items2 n2, slots := sl } ∧ R (.ok (.ret Value.none)) { s with heap := s.heap.update l (Obj.mapSeq fun x => x ++ items2), toks := s.toks }) :=
  .of_wp fun prog w A R s h => by
    obtain ⟨hp, g, d, tk, os⟩ := s; obtain ⟨hl, hb, h⟩ := h; have f1 := idx_int; have f2 := sub_tuple_tuple; have f3 := sub_list_list; have f4 := sub_tuple_list; have f5 := sub_list_tuple;
    have hz' : (items ++ items2).size ≤ sizeLine + 1 := by rw [Array.size_append]; exact hs2
    wp_walk using (wpAny_updateSeq hl rfl (hz := hs1) (_hz' := hz')), wpAny_loadPart' hl, wpAny_loadPart' hb; exact ⟨_, rfl, h⟩
end AutoSeq1
end PySem
namespace DR
open PySem PySem.Spec PyProof.Rows L2
open PySem.W (Frag)
def rExtT (K : Frag) : V → List V → Hp → VK → Prop := fun x vs H Q => ∃ l b xs zs, x = .ref l ∧ vs = [.ref b] ∧ H l = some (.lst xs) ∧ SqT K H b zs ∧ xs.length + zs.length ≤ 100000 ∧ Q .non (upd H l (.lst (xs ++ zs)))
theorem mt_extendT {X : Cx} : MtR X "list.extend" (rExtT X.K) := by
  intro pins s σ H x vs v us Q I rx rv h
  obtain ⟨l, b, xs, zs, rfl, rfl, hH, hB, hz, q⟩ := h
  cases rx
  obtain ⟨u, rfl, ru⟩ := rv.one
  cases ru
  obtain ⟨z, its, n, r, hl, e⟩ := I.lstM hH
  obtain ⟨its2, r2, pt, hz2⟩ := I.tuple hB
  obtain ⟨o2, e2, hc2, n2, hd2⟩ := (show s.heap.IsTuple b its2.toArray from pt)
  obtain ⟨oc, od, dt, sl⟩ := o2
  have hc2 : oc = .type "tuple" := hc2
  have hd2 : dt = .seq its2.toArray n2 := hd2
  subst hc2 hd2
  have hl2 := r2.length
  have hsize : (100000 : Nat) ≤ sizeLine := by decide
  have hsz : its.toArray.size + its2.toArray.size ≤ sizeLine := by rw [List.size_toArray, List.size_toArray]; omega
  have hlong : ¬ (!its.toArray.isEmpty && Builtin.List.listTooLong (its.toArray.size + its2.toArray.size)) = true := by
    rw [notLongL hsz, Bool.and_false]
    exact Bool.false_ne_true
  refine call_meets F.slot_list_extend ⟨_, e, rfl⟩ F.entry_list_extend (F.args_list_extend_2 _ _)
    (AutoSeq1.dr_extend_tuple l its.toArray n b its2.toArray n2 od sl hlong (by rw [List.size_toArray]; omega) (by omega)) ⟨e, e2, ?_⟩
  refine ⟨.non, _, I.lset (its' := its ++ its2) hH e (by simp) (r.append r2) ?_, rfl, q⟩
  rw [List.length_append]
  omega
end DR

set_option Elab.async false
set_option linter.all false
set_option maxRecDepth 100000
set_option maxHeartbeats 4000000
/-! the law's state, heaps behind a draw -/
namespace DR
open PySem PySem.Spec PyProof.Rows L2
open PySem.W (Frag)
section
variable {X : Cx} {K : Frag} {e : Expr} {f : Str} {pos : Pos} {ta : TE}
theorem pe_fldK (he : PE X e ta) (hb : attributeBase e f X.env (eval e X.env) = eval e X.env) (hK : X.K = K := by rfl) : PE X (.Attribute e f pos) (tFld K ta f) := by
  subst hK
  exact pe_fld he hb
theorem pg_tupK {es : List Expr} {k : Nat} {t : TGs} {n : Nat} (hc : X.calm = true) (h : PGs X es t) (hK : X.K = K := by rfl)
    (hn : (assignEach es X.env).length = n := by rfl) (hst : (assignEach es X.env).findIdx? (·.1) = none := by rfl) : PG X (.Tuple es k pos) (gTup K n t) := by
  subst hK
  exact pg_tup hc h hn hst
end
/-- the shape of the law's state -/
def isSt (o : HO) : Prop := ∃ (n i : Int) (c : Addr), o = .lst [.int n, .int i, .ref c]
def ExD (H H' : Hp) : Prop := ∀ a o, H a = some o → ¬ isSt o → H' a = some o
def StAt (H : Hp) (st ce : Addr) : Prop := ∃ (n i : Nat) (cs : List Int), H st = some (.lst [.int n, .int i, .ref ce]) ∧ H ce = some (.lst (cs.map V.int))
theorem isSt_ints {cs : List Int} : ¬ isSt (.lst (cs.map V.int)) := by
  rintro ⟨n, i, c, h⟩
  simp only [HO.lst.injEq] at h
  match cs, h with
  | a :: b :: d :: r, h => simp at h
theorem isSt_refs {as : List Addr} : ¬ isSt (.lst (as.map V.ref)) := by
  rintro ⟨n, i, c, h⟩
  simp only [HO.lst.injEq] at h
  match as, h with
  | a :: r, h => simp at h
theorem isSt_strs {ts : List (List Nat)} : ¬ isSt (.lst (ts.map fun t => V.str (tx t))) := by
  rintro ⟨n, i, c, h⟩
  simp only [HO.lst.injEq] at h
  match ts, h with
  | a :: r, h => simp at h
theorem isSt_bls {bs : List Bool} : ¬ isSt (.lst (bs.map V.bl)) := by
  rintro ⟨n, i, c, h⟩
  simp only [HO.lst.injEq] at h
  match bs, h with
  | a :: r, h => simp at h
theorem isSt_tup {xs : List V} : ¬ isSt (.tup xs) := fun ⟨_, _, _, h⟩ => nomatch h
theorem isSt_ins {C d : Addr} {fs : List (Str × V)} : ¬ isSt (.ins C d fs) := fun ⟨_, _, _, h⟩ => nomatch h
theorem isSt_frz {o : Obj} {u : HO} : ¬ isSt (.frz o u) := fun ⟨_, _, _, h⟩ => nomatch h
theorem ExD.refl (H : Hp) : ExD H H := fun _ _ h _ => h
theorem ExD.trans {H H1 H2 : Hp} (a : ExD H H1) (b : ExD H1 H2) : ExD H H2 := fun x o h n => b x o (a x o h n) n
theorem ExD.of {H H' : Hp} (e : Ex H H') : ExD H H' := fun a o h _ => e a o h
theorem ExD.mut {H H' : Hp} {p : Addr} {o : HO} (e : ExD H H') (h : H p = none) : ExD H (upd H' p o) := fun a u ha hn => by
  rw [upd_ne (ne_of_none ha h)]
  exact e a u ha hn
theorem ExD.then {H H1 H2 : Hp} (a : ExD H H1) (b : Ex H1 H2) : ExD H H2 := a.trans (.of b)
/-- what was free is not the state -/
theorem ExD.fresh {H H' : Hp} {p : Addr} (e : ExD H H') (h : H' p = none) (hn : ∀ o, H p = some o → ¬ isSt o) : H p = none := by
  cases h1 : H p with
  | none => rfl
  | some o => rw [e p o h1 (hn o h1)] at h; cases h
theorem StAt.mono {H H' : Hp} {st ce : Addr} (e : Ex H H') (h : StAt H st ce) : StAt H' st ce := by
  obtain ⟨n, i, cs, h1, h2⟩ := h
  exact ⟨n, i, cs, e _ _ h1, e _ _ h2⟩
theorem StAt.ne {H : Hp} {st ce p : Addr} (h : StAt H st ce) (hp : H p = none) : st ≠ p ∧ ce ≠ p := by
  obtain ⟨n, i, cs, h1, h2⟩ := h
  exact ⟨ne_of_none h1 hp, ne_of_none h2 hp⟩
theorem StAt.mut {H : Hp} {st ce p : Addr} {o : HO} (h : StAt H st ce) (hn : st ≠ p ∧ ce ≠ p) : StAt (upd H p o) st ce := by
  obtain ⟨n, i, cs, h1, h2⟩ := h
  exact ⟨n, i, cs, by rw [upd_ne hn.1]; exact h1, by rw [upd_ne hn.2]; exact h2⟩
theorem LL.monoD {H H' : Hp} {p : Addr} {rows : List (List Int)} (e : ExD H H') (h : LL H p rows) : LL H' p rows := by
  obtain ⟨as, h1, h2, h3⟩ := h
  refine ⟨as, e _ _ h1 isSt_refs, h2, fun i hi => ?_⟩
  obtain ⟨a, ha, hb⟩ := h3 i hi
  exact ⟨a, ha, e _ _ hb isSt_ints⟩
theorem SqT.monoD {K : Frag} {H H' : Hp} {p : Addr} {xs : List V} (e : ExD H H') (h : SqT K H p xs) : SqT K H' p xs := by
  rcases h with (h | ⟨o, h⟩) | h
  · exact .inl (.inl (e _ _ h isSt_tup))
  · exact .inl (.inr ⟨o, e _ _ h isSt_frz⟩)
  · exact .inr h
theorem SqL.monoD {K : Frag} {H H' : Hp} {p : Addr} {xs : List V} (e : ExD H H') (hn : ¬ isSt (.lst xs)) (h : SqL K H p xs) : SqL K H' p xs := by
  rcases h with (h | ⟨o, h⟩) | h
  · exact .inl (.inl (e _ _ h hn))
  · exact .inl (.inr ⟨o, e _ _ h isSt_frz⟩)
  · exact .inr h
theorem CoatAt.monoD {K : Frag} {H H' : Hp} {a : Addr} {t : List Nat} (e : ExD H H') (h : CoatAt K H a t) : CoatAt K H' a t := by
  obtain ⟨dx, b, h1, h2⟩ := h
  exact ⟨dx, b, e _ _ h1 isSt_ins, SqT.monoD e h2⟩
/-! sets of places -/
def maskSet (P code : Nat) : List Int := ((List.range P).filter fun x : Nat => decide (code / 2 ^ x % 2 = 1)).map fun x : Nat => (x : Int)
def topOf (P : Nat) : Nat := 2 ^ P - 1
end DR

set_option Elab.async false
set_option linter.all false
set_option maxRecDepth 100000
set_option maxHeartbeats 4000000
namespace DR
open PySem PySem.Spec PyProof.Rows L2
open PySem.W (Frag)
local macro_rules
  | `(tactic| walk_at "wp") => `(tactic| try simp only [L2.start, List.map_cons, List.map_nil, List.length_cons, List.length_nil, List.replicate, Nat.reduceAdd, Nat.reduceSub, List.cons_append, List.nil_append, List.append_nil, List.set_cons_succ, List.set_cons_zero,
      List.getElem?_cons_succ, List.getElem?_cons_zero, ap_K1, ap_K2, ap_seq, ap_next, ap_asg, ap_name, ap_ret, ap_retN, ap_drop, ap_ifS, ap_c, ap_var, ap_op, ap_un, ap_chain, ap_test, ap_B, ap_and, ap_or, ap_not, ap_yes, ap_andV, ap_orV, ap_notV, ap_if, ap_nil, ap_cons, ap_cb, ap_lst, ap_tup, ap_bm, ap_bm0, ap_m1, ap_call, ap_sl, ap_part, ap_nopart, ap_rI0, ap_rI, ap_rU, ap_eqI, ap_neI, ap_eqS, ap_neS, ap_eqB, ap_neB, ap_fld, ap_tup_, ap_gcons, ap_gnil, ap_gsub, ap_for, ap_lc, ap_rng1, ap_rng2, ap_list, ap_itup, ap_str, ap_enum, ap_zip, ap_inSg, ap_ninSg, ap_addS, ap_sfld, ap_meth, ap_prop, ap_make, ap_smeth, ap_never, ap_ost, ap_callS, ap_mko, ap_enumS, ap_zipS, ap_rng3, ap_listRg, ap_rg1, ap_cval, len_abcdef, exists_and_left, exists_and_right, exists_eq_left', and_assoc, exists_eq_left, exists_eq, exists_eq', Option.some.injEq, V.int.injEq, V.str.injEq, V.ref.injEq, V.bl.injEq, V.ty.injEq, List.cons.injEq, and_true, true_and, decide_eq_true_eq, Bool.not_eq_true', decide_eq_false_iff_not, Bool.false_eq_true, if_true, if_false, reduceCtorEq, false_and, and_false, or_false, false_or, or_true, true_or, not_true_eq_false, not_false_eq_true, Int.zero_add, lit_nil, lit_a, tx_len, one_tx, tx_app, tx_inj, exists_const, forall_const])
  | `(tactic| walk_at "om") => `(tactic| repeat (refine ⟨by first | omega | exact szI, ?_⟩))

theorem set_v {p : Addr} {H : Hp} {Q : Hp → Prop} {xs : List V} {i : Int} {v : V} (j : Nat) (h : H p = some (.lst xs)) (e : i = (j : Int)) (hj : j < xs.length) (q : Q (upd H p (.lst (xs.set j v)))) : rSetL (.ref p) (.int i) v H Q := by
  subst e
  refine ⟨p, _, j, j, rfl, rfl, h, ?_, q⟩
  unfold ixN
  rw [if_pos (by omega), if_pos (by omega), Int.toNat_natCast]
def sp_law_draw (K : Frag) : Sp := fun vs H Q _ => ∃ (st ce : Addr) (m : Nat), vs = [.ref st, .int m] ∧ StAt H st ce ∧ 0 < m ∧ m ≤ 1000 ∧ ∀ (v : Nat) H', v < m → ExD H H' → StAt H' st ce → Q (.int v) H'
theorem sc_law_draw : FnScope ["_law_state", "_law_limit", "_law_cells", "_law_value"] ["_law_state", "_law_limit"] (defScope s_law_draw) := ⟨rfl, rfl, rfl, by decide +kernel, rfl, by decide +kernel, by decide +kernel⟩
theorem b_law_draw {K : Frag} {mg : Str → Option Value} (c : Wd K mg) : Binds K (fdOf K (gA K "_law_draw")) ["_law_state", "_law_limit"] [] := c.f_law_draw.binds (fun _ _ _ _ _ _ us hl => match us, hl with | [_, _], _ => rfl)
theorem ok_law_draw {P : Program} {w : World} {K : Frag} {mg : Str → Option Value} {base : Heap} (c : Wd K mg) : FnOk P w K mg base (L2.CX P w) 1 (gA K "_law_draw") (fdOf K (gA K "_law_draw")) ["_law_state", "_law_limit"] (sp_law_draw K) := by
  refine c.f_law_draw.okX sc_law_draw (fun vs H Q E h => ?_) (fun cdv A outer s H vs Q E hr h => ⟨_, PSs.nox (pss_cons (ps_set (i := 2) sc_law_draw.nd rfl (Or.inl rfl) (pe_ix ix_list (pv 0) pe_int (fun _ _ => rfl)))
      (pss_cons (ps_while PassesOwn.never (PW.pt (pw_and (pt_cmpR op_eq (pe_ix ix_list (pv 0) pe_int (fun _ _ => rfl)) pe_int (nomark _)) (pw_and1 (pt_cmpR op_lt (pe_ix ix_list (pv 0) pe_int (fun _ _ => rfl)) (pe_callB call_lenV (by rfl) c.z_len (by decide +kernel) (pa_cons (pv 2) pa_nil)) (nomark _))))) (pss_cons (ps_asg (pe_callB call_abs (by rfl) c.z_abs (by decide +kernel) (pa_cons (pe_callTy call_int1 (by rfl) c.z_int (by decide +kernel) (pa_cons (pe_ix ix_list (pv 2) (pe_ix ix_list (pv 0) pe_int (fun _ _ => rfl)) (fun _ _ => rfl)) pa_nil)) pa_nil)) (pg_sub (pv 0) pe_int set_list))
      (pss_one (ps_asg (pe_op op_add (pe_ix ix_list (pv 0) pe_int (fun _ _ => rfl)) pe_int) (pg_sub (pv 0) pe_int set_list)))))
      (pss_cons (ps_set (i := 3) sc_law_draw.nd rfl (Or.inl rfl) (pe_op op_mod (pe_callTy call_int1 (by rfl) c.z_int (by decide +kernel) (pa_cons (pe_ix ix_list (pv 0) pe_int (fun _ _ => rfl)) pa_nil)) (pv 1)))
      (pss_cons (ps_asg (pe_op op_fdiv (pe_callTy call_int1 (by rfl) c.z_int (by decide +kernel) (pa_cons (pe_ix ix_list (pv 0) pe_int (fun _ _ => rfl)) pa_nil)) (pv 1)) (pg_sub (pv 0) pe_int set_list))
      (pss_one (ps_ret (pv 3))))))), ?_⟩)
  · obtain ⟨st, ce, m, rfl, hst, hm, hm2, hQ⟩ := h
    rfl
  obtain ⟨st, ce, m, rfl, hst, hm, hm2, hQ⟩ := h
  obtain ⟨n, i, cs, h1, h2⟩ := hst
  have hne : ce ≠ st := by
    rintro rfl
    rw [h1] at h2
    exact isSt_ints ⟨n, i, ce, (Option.some.inj h2).symm⟩
  have key : ∀ (n' i' : Nat) H', H' = upd H st (.lst [.int n', .int i', .ref ce]) → ExD H H' ∧ H' st = some (.lst [.int n', .int i', .ref ce]) ∧ H' ce = some (.lst (cs.map V.int)) := by
    rintro n' i' H' rfl
    refine ⟨fun a o ha hn => ?_, upd_same, by rw [upd_ne hne]; exact h2⟩
    have : a ≠ st := by rintro rfl; rw [h1] at ha; exact hn ⟨_, _, _, (Option.some.inj ha).symm⟩
    rw [upd_ne this]
    exact ha
  have e0 : H = upd H st (.lst [.int n, .int i, .ref ce]) := by
    funext b
    by_cases hb : b = st
    · rw [hb, upd_same, h1]
    · rw [upd_ne hb]
  walk_at "wp"
  refine ixL_v 2 (Evl.sq_of h1) rfl rfl ?_
  walk_at "wp"
  refine ⟨fun k σ' H' => ∃ n' i' : Nat, σ' = [some (.ref st), some (.int m), some (.ref ce), none] ∧ H' = upd H st (.lst [.int n', .int i', .ref ce]) ∧ k = cs.length - i', ⟨_, n, i, rfl, e0, rfl⟩, ?_⟩
  rintro k σ' H' ⟨n', i', rfl, hH', rfl⟩
  obtain ⟨k1, k2, k3⟩ := key n' i' H' hH'
  walk_at "wp"
  refine ixL_v 0 (Evl.sq_of k2) rfl rfl ?_
  walk_at "wp"
  split <;> rename_i h0
  · refine ixL_v 1 (Evl.sq_of k2) rfl rfl ?_
    refine len_l (Evl.sq_of k3) rfl ?_
    rw [List.length_map]
    walk_at "wp"
    split <;> rename_i h1'
    · refine ⟨_, fun _ _ h => h, ?_⟩
      have hi : i' < cs.length := by omega
      refine ixL_v 1 (Evl.sq_of k2) rfl rfl ?_
      refine ixL_i i' (Evl.sq_of k3) rfl hi ?_
      walk_at "wp"
      refine set_v 0 k2 rfl (by show 0 < 3; decide) ?_
      obtain ⟨a, ha⟩ : ∃ a : Nat, (if cs.getD i' 0 < 0 then -cs.getD i' 0 else cs.getD i' 0) = (a : Int) := by
        split
        · exact ⟨(-cs.getD i' 0).toNat, by omega⟩
        · exact ⟨(cs.getD i' 0).toNat, by omega⟩
      rw [ha]
      refine ixL_v 1 (Evl.sq_of upd_same) rfl rfl ?_
      walk_at "wp"
      refine set_v 1 upd_same rfl (by show 1 < 3; decide) ?_
      refine ⟨cs.length - (i' + 1), by omega, a, i' + 1, ?_, rfl⟩
      rw [upd_upd, hH', upd_upd]
      rfl
    · refine ixL_v 0 (Evl.sq_of k2) rfl rfl ?_
      walk_at "wp"
      refine ⟨by omega, ixL_v 0 (Evl.sq_of k2) rfl rfl ?_⟩
      walk_at "wp"
      refine ⟨⟨by omega, by omega⟩, set_v 0 k2 rfl (by show 0 < 3; decide) ?_⟩
      have q := hQ (n' % m) (upd H' st (.lst [.int ((n' / m : Nat) : Int), .int i', .ref ce])) (Nat.mod_lt _ hm) (by rw [hH', upd_upd]; exact (key (n' / m) i' _ rfl).1) ⟨n' / m, i', cs, upd_same, by rw [upd_ne hne]; exact k3⟩
      rw [Int.natCast_emod, Int.natCast_ediv] at q
      exact q
  · refine ixL_v 0 (Evl.sq_of k2) rfl rfl ?_
    walk_at "wp"
    refine ⟨by omega, ixL_v 0 (Evl.sq_of k2) rfl rfl ?_⟩
    walk_at "wp"
    refine ⟨⟨by omega, by omega⟩, set_v 0 k2 rfl (by show 0 < 3; decide) ?_⟩
    have q := hQ (n' % m) (upd H' st (.lst [.int ((n' / m : Nat) : Int), .int i', .ref ce])) (Nat.mod_lt _ hm) (by rw [hH', upd_upd]; exact (key (n' / m) i' _ rfl).1) ⟨n' / m, i', cs, upd_same, by rw [upd_ne hne]; exact k3⟩
    rw [Int.natCast_emod, Int.natCast_ediv] at q
    exact q
end DR

set_option Elab.async false
set_option linter.all false
set_option maxRecDepth 100000
set_option maxHeartbeats 4000000
namespace DR
open PySem PySem.Spec PyProof.Rows L2
open PySem.W (Frag)
local macro_rules
  | `(tactic| walk_at "wp") => `(tactic| try simp only [L2.start, List.map_cons, List.map_nil, List.length_cons, List.length_nil, List.replicate, Nat.reduceAdd, Nat.reduceSub, List.cons_append, List.nil_append, List.append_nil, List.set_cons_succ, List.set_cons_zero,
      List.getElem?_cons_succ, List.getElem?_cons_zero, ap_K1, ap_K2, ap_seq, ap_next, ap_asg, ap_name, ap_ret, ap_retN, ap_drop, ap_ifS, ap_c, ap_var, ap_op, ap_un, ap_chain, ap_test, ap_B, ap_and, ap_or, ap_not, ap_yes, ap_andV, ap_orV, ap_notV, ap_if, ap_nil, ap_cons, ap_cb, ap_lst, ap_tup, ap_bm, ap_bm0, ap_m1, ap_call, ap_sl, ap_part, ap_nopart, ap_rI0, ap_rI, ap_rU, ap_eqI, ap_neI, ap_eqS, ap_neS, ap_eqB, ap_neB, ap_fld, ap_tup_, ap_gcons, ap_gnil, ap_gsub, ap_for, ap_lc, ap_rng1, ap_rng2, ap_list, ap_itup, ap_str, ap_enum, ap_zip, ap_inSg, ap_ninSg, ap_addS, ap_sfld, ap_meth, ap_prop, ap_make, ap_smeth, ap_never, ap_ost, ap_callS, ap_mko, ap_enumS, ap_zipS, ap_rng3, ap_listRg, ap_rg1, ap_cval, len_abcdef, exists_and_left, exists_and_right, exists_eq_left', and_assoc, exists_eq_left, exists_eq, exists_eq', Option.some.injEq, V.int.injEq, V.str.injEq, V.ref.injEq, V.bl.injEq, V.ty.injEq, List.cons.injEq, and_true, true_and, decide_eq_true_eq, Bool.not_eq_true', decide_eq_false_iff_not, Bool.false_eq_true, if_true, if_false, reduceCtorEq, false_and, and_false, or_false, false_or, or_true, true_or, not_true_eq_false, not_false_eq_true, Int.zero_add, lit_nil, lit_a, tx_len, one_tx, tx_app, tx_inj, exists_const, forall_const])
  | `(tactic| walk_at "om") => `(tactic| repeat (refine ⟨by first | omega | exact szI, ?_⟩))

/-- the law's sets: each a set of places by its mask -/
def lawSets (P : Nat) (codes : List Nat) : List (List Int) := codes.map (maskSet P)
def sp_law_stands (K : Frag) : Sp := fun vs H Q _ => ∃ (st ce : Addr) (P n : Nat), vs = [.ref st, .int P, .int n] ∧ StAt H st ce ∧ 1 ≤ P ∧ P ≤ 3 ∧ n ≤ 4 ∧ ∀ (codes : List Nat) p H', codes.length = n → (∀ k ∈ codes, 1 ≤ k ∧ k ≤ topOf P) → ExD H H' → StAt H' st ce → LL H' p (lawSets P codes) → Q (.ref p) H'
theorem sc_law_stands : FnScope ["_law_state", "_law_places", "_law_many", "_law_top", "_law_sets", "_law_k", "_law_code", "_law_bits", "_law_x"] ["_law_state", "_law_places", "_law_many"] (defScope s_law_stands) := ⟨rfl, rfl, rfl, by decide +kernel, rfl, by decide +kernel, by decide +kernel⟩
theorem b_law_stands {K : Frag} {mg : Str → Option Value} (c : Wd K mg) : Binds K (fdOf K (gA K "_law_stands")) ["_law_state", "_law_places", "_law_many"] [] := c.f_law_stands.binds (fun _ _ _ _ _ _ us hl => match us, hl with | [_, _, _], _ => rfl)
theorem ok_law_stands {P : Program} {w : World} {K : Frag} {mg : Str → Option Value} {base : Heap} (c : Wd K mg) : FnOk P w K mg base (L2.CX P w) 3 (gA K "_law_stands") (fdOf K (gA K "_law_stands")) ["_law_state", "_law_places", "_law_many"] (sp_law_stands K) := by
  refine c.f_law_stands.okX sc_law_stands (fun vs H Q E h => ?_) (fun cdv A outer s H vs Q E hr h => ⟨_, PSs.nox (pss_cons (ps_set (i := 3) sc_law_stands.nd rfl (Or.inl rfl) (pe_ix ix_list (pe_lst (pa_cons pe_int (pa_cons pe_int (pa_cons pe_int pa_nil)))) (pe_op op_sub (pv 1) pe_int) (fun _ _ => rfl)))
      (pss_cons (ps_set (i := 4) sc_law_stands.nd rfl (Or.inl rfl) (pe_lst pa_nil))
      (pss_cons (ps_for PassesOwn.never rfl (pi_range1 rfl c.z_range (pa_cons (pv 2) pa_nil)) (pg_name (i := 5) sc_law_stands.nd rfl (Or.inl rfl)) (pss_cons (ps_set (i := 6) sc_law_stands.nd rfl (Or.inl rfl) (pe_op op_add pe_int (pe_op op_mod (pe_callTy call_int1 (by rfl) c.z_int (by decide +kernel) (pa_cons (pe_op op_add (pe_call (ok_law_draw c) (hr.mono (by decide)) rfl c.g_law_draw c.f_law_draw.kp (b_law_draw c) .nil passL (pa_cons (pv 0) (pa_cons (pv 3) pa_nil))) (pv 5)) pa_nil)) (pv 3))))
      (pss_cons (ps_set (i := 7) sc_law_stands.nd rfl (Or.inr rfl) (pe_lst (pa_cons (pv 6) (pa_cons (pe_op op_fdiv (pv 6) pe_int) (pa_cons (pe_op op_fdiv (pv 6) pe_int) pa_nil)))))
      (pss_one (ps_expr (pe_bm PySem.F.plainAttrs_list PySem.F.slot_list_append PySem.F.type_list_append mt_append (pv 4) (pa_cons (pe_lc (own := [("_law_x", 8)]) (g := gName 8) rfl sc_law_stands.nd (pi_range1 rfl c.z_range (pa_cons (pv 1) pa_nil)) (blkOk_by (own := [("_law_x", 8)]) (N := ["_law_state", "_law_places", "_law_many", "_law_top", "_law_sets", "_law_k", "_law_code", "_law_bits", "_law_x"]) (sc := defScope s_law_stands) (by decide +kernel)) (fun _ _ _ _ _ => (pg_name (i := 8) sc_law_stands.nd rfl (Or.inl rfl))) (fun _ _ _ _ _ => (pts_one (pt_cmpR op_eq (pe_op op_mod (pe_callTy call_int1 (by rfl) c.z_int (by decide +kernel) (pa_cons (pe_ix (r := rIxL K) ix_list (pv 7) (pv 8) (fun _ _ => rfl)) pa_nil)) pe_int) pe_int (nomark _)))) (fun _ _ _ _ _ => (pv 8))) pa_nil)))))))
      (pss_one (ps_ret (pv 4)))))), ?_⟩)
  · obtain ⟨st, ce, P', n, rfl, hst, hP1, hP3, hn, hQ⟩ := h
    rfl
  obtain ⟨st, ce, P', n, rfl, hst, hP1, hP3, hn, hQ⟩ := h
  walk_at "wp"
  refine ⟨szI, fun l0 hl0 => ?_⟩
  have hx0 : Ex H (upd H l0 (.lst [.int 1, .int 3, .int 7])) := Evl.Ex.new hl0
  have hget : ([.int 1, .int 3, .int 7] : List V)[P' - 1]? = some (.int (topOf P' : Nat)) := by
    match P', hP1, hP3 with
    | 1, _, _ => rfl
    | 2, _, _ => rfl
    | 3, _, _ => rfl
  refine ixL_v (P' - 1) (Evl.sq_of upd_same) (by omega) hget ?_
  have htop : 1 ≤ topOf P' ∧ topOf P' ≤ 7 := by
    match P', hP1, hP3 with
    | 1, _, _ => exact ⟨by decide, by decide⟩
    | 2, _, _ => exact ⟨by decide, by decide⟩
    | 3, _, _ => exact ⟨by decide, by decide⟩
  walk_at "wp"
  refine ⟨szI, fun p hp => ?_⟩
  walk_at "om"
  have hp0 : H p = none := Evl.fresh_back hx0 hp
  refine lp_rng (fun i σ' H' => ∃ x y z w, ∃ codes : List Nat, σ' = [some (.ref st), some (.int P'), some (.int n), some (.int (topOf P' : Nat)), some (.ref p), x, y, z, w] ∧ ExD H H' ∧ StAt H' st ce ∧ LL H' p (lawSets P' codes) ∧ codes.length = i ∧ (∀ k ∈ codes, 1 ≤ k ∧ k ≤ topOf P'))
    ⟨_, _, _, _, [], rfl, .of (hx0.trans (Evl.Ex.new hp)), hst.mono (hx0.trans (Evl.Ex.new hp)), LL.nil, rfl, fun k hk => nomatch hk⟩ ?_ ?_
  · rintro i σ' H' hi ⟨x, y, z, w, codes, rfl, hx, hs, hL, hc, hcs⟩
    walk_at "wp"
    refine ⟨st, ce, topOf P', rfl, hs, by omega, by omega, fun v H1 hv hx1 hs1 => ?_⟩
    walk_at "wp"
    refine ⟨by omega, ?_⟩
    have hcode : (1 : Int) + ((v : Int) + i) % (topOf P' : Nat) = ((1 + (v + i) % topOf P' : Nat) : Int) := by
      rw [show (v : Int) + i = ((v + i : Nat) : Int) by omega, ← Int.natCast_emod]
      omega
    rw [hcode]
    have hlt : (v + i) % topOf P' < topOf P' := Nat.mod_lt _ (by omega)
    have hc1 : 1 ≤ 1 + (v + i) % topOf P' ∧ 1 + (v + i) % topOf P' ≤ topOf P' := by omega
    clear hlt hcode
    revert hc1
    generalize 1 + (v + i) % topOf P' = code
    intro hc1
    refine ⟨⟨by omega, by omega⟩, ⟨by omega, by omega⟩, szI, fun q hq => ?_⟩
    have hxq : Ex H1 (upd H1 q (.lst [.int code, .int ((code : Int) / 2), .int ((code : Int) / 4)])) := Evl.Ex.new hq
    have hq1 : upd H1 q (.lst [.int code, .int ((code : Int) / 2), .int ((code : Int) / 4)]) q = some (.lst [.int code, .int ((code : Int) / 2), .int ((code : Int) / 4)]) := upd_same
    revert hxq hq1
    generalize upd H1 q (.lst [.int code, .int ((code : Int) / 2), .int ((code : Int) / 4)]) = H2
    intro hxq hq1
    have hL2 := (hL.monoD hx1).mono hxq
    obtain ⟨as, ha, hb⟩ := id hL2
    refine ⟨tyL ha, by omega, by omega, fun D hD => ?_⟩
    refine lc_rngF (fun k => decide (code / 2 ^ k % 2 = 1)) (fun k => .int (k : Int)) (by omega) hD (fun _ => rfl) ?_ ?_ ?_
    · intro k H3 hk hx3 Q' q'
      have hk3 : k < 3 := by omega
      simp only [wipe]
      walk_at "wp"
      have hbit : ([.int code, .int ((code : Int) / 2), .int ((code : Int) / 4)] : List V)[k]? = some (.int ((code / 2 ^ k : Nat) : Int)) := by
        match k, hk3 with
        | 0, _ => simp
        | 1, _ => simp
        | 2, _ => simp
      refine ixL_v k (Evl.sq_of (hx3 _ _ hq1)) rfl hbit ?_
      walk_at "wp"
      have e : decide (((code / 2 ^ k : Nat) : Int) % 2 = 1) = decide (code / 2 ^ k % 2 = 1) := by
        refine decide_eq_decide.mpr ?_
        omega
      refine ⟨by omega, ?_⟩
      rw [e]
      exact q' _ (Evl.Ex.refl _)
    · intro k H3 hk _ hx3 Q' q'
      simp only [wipe]
      walk_at "wp"
      exact q' _ (Evl.Ex.refl _)
    · intro H3 hx3 hD3
      have hL3 := hL2.mono hx3
      refine app_ok (hx3 _ _ ha) (by rw [List.length_map, hb.1]; simp [lawSets]; omega) ?_
      have hx4 : ExD H H3 := ((hx.trans hx1).then hxq).then hx3
      have hDp : D ≠ p := by rintro rfl; rw [ha] at hD; cases hD
      have hst3 : StAt H3 st ce := (hs1.mono hxq).mono hx3
      refine ⟨hx4.mut hp0, hst3.mut (hst.ne hp0), codes ++ [code], ?_, by simp [hc], fun k hk => ?_⟩
      · have e : lawSets P' (codes ++ [code]) = lawSets P' codes ++ [maskSet P' code] := by simp [lawSets]
        rw [e]
        refine hL3.push (hx3 _ _ ha) ?_ hDp
        rw [hD3]
        simp [maskSet, Evl.given]
      · rcases List.mem_append.mp hk with hk | hk
        · exact hcs k hk
        · rw [List.mem_singleton] at hk
          subst hk
          omega
  · rintro σ' H' ⟨x, y, z, w, codes, rfl, hx, hs, hL, hc, hcs⟩
    walk_at "wp"
    exact hQ codes p H' (by omega) hcs hx hs hL
end DR

set_option Elab.async false
set_option linter.all false
set_option maxRecDepth 100000
set_option maxHeartbeats 4000000
/-! ''.join, calendars -/
namespace DR
open PySem PySem.Spec PyProof.Rows L2
open PySem.W (Frag)
theorem sv_map (ts : List (List Nat)) : sv ts = (ts.map tx).map V.str := by simp [sv]
theorem joinL_nil : ∀ ts : List (List Nat), TL.joinL [] ts = ts.flatten
  | [] => rfl
  | [p] => by simp [TL.joinL]
  | p :: q :: r => by
    show p ++ ([] ++ TL.joinL [] (q :: r)) = _
    rw [joinL_nil (q :: r)]
    simp
theorem join_tx (ts : List (List Nat)) : Txt.join (tx []) (ts.map tx) = tx ts.flatten := by
  rw [TL.join_eq]
  have h := TL.tl_join (tx []) (ts.map tx)
  have e : (ts.map tx).map TL.tl = ts := by
    rw [List.map_map]
    conv => rhs; rw [← List.map_id ts]
    exact List.map_congr_left fun t _ => tx_toList t
  rw [e] at h
  have e2 : TL.tl (tx []) = [] := tx_toList []
  rw [e2, joinL_nil] at h
  have e3 : ∀ s : Str, s = tx (TL.tl s) := fun s => by
    obtain ⟨a⟩ := s
    simp [TL.tl, tx]
  rw [e3 (Str.join (tx []) (ts.map tx)), h]
def rJoinV (K : Frag) : V → List V → Hp → VK → Prop := fun x xs H Q => ∃ a p, ∃ ys : List Str, x = .str a ∧ xs = [.ref p] ∧ (SqL K H p (ys.map V.str) ∨ SqT K H p (ys.map V.str)) ∧ (ys.map (·.length)).sum + ys.length * a.length ≤ 16777216 ∧ Q (.str (Txt.join a ys)) H
theorem mt_joinV {X : Cx} : MtR X "str.join" (rJoinV X.K) := mt_join
theorem pe_joinV {X : Cx} {K : Frag} {o e : Expr} {to te : TE} {apos pos : Pos} (ho : PE X o to) (he : PE X e te) (hK : X.K = K := by rfl) (hs : starEach [e] X.env = [(false, eval e X.env)] := by rfl) (hbase : attributeBase o "join" X.env (eval o X.env) = eval o X.env := by rfl) (hline : (apos.endLine == pos.line) = true := by rfl) :
    PE X (.Call (.Attribute o "join" apos) [e] [] pos) (tM1 (rJoinV K) to te) := by
  subst hK
  exact pe_m1 F.slot_str_join F.type_str_join mt_joinV ho he hs hbase hline
theorem join_ok {K : Frag} {H : Hp} {Q : VK} {p : Addr} {ts : List (List Nat)} (h : SqL K H p (sv ts)) (hz : (ts.map List.length).sum ≤ 100000) (q : Q (.str (tx ts.flatten)) H) : rJoinV K (.str (tx [])) [.ref p] H Q := by
  refine ⟨tx [], p, ts.map tx, rfl, rfl, .inl (by rw [← sv_map]; exact h), ?_, by rw [join_tx]; exact q⟩
  rw [List.map_map, tx_len]
  have e : ((fun x : Str => x.length) ∘ tx) = List.length := funext fun t => tx_len t
  rw [e]
  simp only [List.length_nil, Nat.mul_zero]
  omega
/-! ### words -/
def wordAt (ls : List Nat) (sets : List (List Int)) (x : Nat) : List Nat := ((List.range ls.length).filter fun k : Nat => decide ((x : Int) ∈ sets.getD k [])).map fun k : Nat => ls.getD k 0
def wordsOf (P : Nat) (ls : List Nat) (sets : List (List Int)) : List (List Nat) := mapr P (wordAt ls sets)
theorem singles_flat (ks : List Nat) (f : Nat → Nat) : (ks.map fun k => [f k]).flatten = ks.map f := by
  induction ks with
  | nil => rfl
  | cons a r ih => simp [ih]
theorem singles_sum (ks : List Nat) (f : Nat → Nat) : ((ks.map fun k => [f k]).map List.length).sum = ks.length := by
  induction ks with
  | nil => rfl
  | cons a r ih =>
    rw [List.map_cons, List.map_cons, List.sum_cons, ih]
    simp only [List.length_cons, List.length_nil]
    omega
theorem isSt_sv {ts : List (List Nat)} : ¬ isSt (.lst (sv ts)) := isSt_strs
theorem given_sv {n : Nat} {f : Nat → Bool} {g : Nat → List Nat} : Evl.given n f (fun k => .str (tx (g k))) = sv (((List.range n).filter f).map g) := by simp [Evl.given, sv]
end DR

set_option Elab.async false
set_option linter.all false
set_option maxRecDepth 100000
set_option maxHeartbeats 4000000
namespace DR
open PySem PySem.Spec PyProof.Rows L2
open PySem.W (Frag)
local macro_rules
  | `(tactic| walk_at "wp") => `(tactic| try simp only [L2.start, List.map_cons, List.map_nil, List.length_cons, List.length_nil, List.replicate, Nat.reduceAdd, Nat.reduceSub, List.cons_append, List.nil_append, List.append_nil, List.set_cons_succ, List.set_cons_zero,
      List.getElem?_cons_succ, List.getElem?_cons_zero, ap_K1, ap_K2, ap_seq, ap_next, ap_asg, ap_name, ap_ret, ap_retN, ap_drop, ap_ifS, ap_c, ap_var, ap_op, ap_un, ap_chain, ap_test, ap_B, ap_and, ap_or, ap_not, ap_yes, ap_andV, ap_orV, ap_notV, ap_if, ap_nil, ap_cons, ap_cb, ap_lst, ap_tup, ap_bm, ap_bm0, ap_m1, ap_call, ap_sl, ap_part, ap_nopart, ap_rI0, ap_rI, ap_rU, ap_eqI, ap_neI, ap_eqS, ap_neS, ap_eqB, ap_neB, ap_fld, ap_tup_, ap_gcons, ap_gnil, ap_gsub, ap_for, ap_lc, ap_rng1, ap_rng2, ap_list, ap_itup, ap_str, ap_enum, ap_zip, ap_inSg, ap_ninSg, ap_addS, ap_sfld, ap_meth, ap_prop, ap_make, ap_smeth, ap_never, ap_ost, ap_callS, ap_mko, ap_enumS, ap_zipS, ap_rng3, ap_listRg, ap_rg1, ap_cval, len_abcdef, exists_and_left, exists_and_right, exists_eq_left', and_assoc, exists_eq_left, exists_eq, exists_eq', Option.some.injEq, V.int.injEq, V.str.injEq, V.ref.injEq, V.bl.injEq, V.ty.injEq, List.cons.injEq, and_true, true_and, decide_eq_true_eq, Bool.not_eq_true', decide_eq_false_iff_not, Bool.false_eq_true, if_true, if_false, reduceCtorEq, false_and, and_false, or_false, false_or, or_true, true_or, not_true_eq_false, not_false_eq_true, Int.zero_add, lit_nil, lit_a, tx_len, one_tx, tx_app, tx_inj, exists_const, forall_const])
  | `(tactic| walk_at "om") => `(tactic| repeat (refine ⟨by first | omega | exact szI, ?_⟩))

def sp_law_words (K : Frag) : Sp := fun vs H Q _ => ∃ (P : Nat) (ls : List Nat) (s : Addr) (sets : List (List Int)), vs = [.int P, .str (tx ls), .ref s] ∧ LL H s sets ∧ sets.length = ls.length ∧ P ≤ 3 ∧ ls.length ≤ 4 ∧ ∀ p H', H p = none → Ex H H' → H' p = some (.lst (sv (wordsOf P ls sets))) → Q (.ref p) H'
theorem sc_law_words : FnScope ["_law_places", "_law_letters", "_law_sets", "_law_words_here", "_law_x", "_law_chars", "_law_k"] ["_law_places", "_law_letters", "_law_sets"] (defScope s_law_words) := ⟨rfl, rfl, rfl, by decide +kernel, rfl, by decide +kernel, by decide +kernel⟩
theorem b_law_words {K : Frag} {mg : Str → Option Value} (c : Wd K mg) : Binds K (fdOf K (gA K "_law_words")) ["_law_places", "_law_letters", "_law_sets"] [] := c.f_law_words.binds (fun _ _ _ _ _ _ us hl => match us, hl with | [_, _, _], _ => rfl)
theorem ok_law_words {P : Program} {w : World} {K : Frag} {mg : Str → Option Value} {base : Heap} (c : Wd K mg) : FnOk P w K mg base (L2.CX P w) 1 (gA K "_law_words") (fdOf K (gA K "_law_words")) ["_law_places", "_law_letters", "_law_sets"] (sp_law_words K) := by
  refine c.f_law_words.okX sc_law_words (fun vs H Q E h => ?_) (fun cdv A outer s H vs Q E hr h => ⟨_, PSs.nox (pss_cons (ps_set (i := 3) sc_law_words.nd rfl (Or.inl rfl) (pe_lst pa_nil))
      (pss_cons (ps_for PassesOwn.never rfl (pi_range1 rfl c.z_range (pa_cons (pv 0) pa_nil)) (pg_name (i := 4) sc_law_words.nd rfl (Or.inr rfl)) (pss_cons (ps_setLc (i := 5) (own := [("_law_k", 6)]) (g := gName 6) rfl sc_law_words.nd rfl rfl (sw_true rfl rfl rfl (by decide +kernel)) (pi_range1 rfl c.z_range (pa_cons (pe_callB call_len_str (by rfl) c.z_len (by decide +kernel) (pa_cons (pv 1) pa_nil)) pa_nil)) (blkOk_by (own := [("_law_k", 6)]) (N := ["_law_places", "_law_letters", "_law_sets", "_law_words_here", "_law_x", "_law_chars", "_law_k"]) (sc := defScope s_law_words) (by decide +kernel)) (fun _ _ _ _ _ => (pg_name (i := 6) sc_law_words.nd rfl (Or.inl rfl))) (fun _ _ _ _ _ => (pts_one (pt_cmpR (r := rIn K false) op_in_seq (pv 4) (pe_ix (r := rIxL K) ix_list (pv 2) (pv 6) (fun _ _ => rfl)) rfl))) (fun _ _ _ _ _ => (pe_ix ix_str (pv 1) (pv 6) (fun _ _ => rfl))))
      (pss_one (ps_expr (pe_bm PySem.F.plainAttrs_list PySem.F.slot_list_append PySem.F.type_list_append mt_append (pv 3) (pa_cons (pe_joinV pe_str (pv 5)) pa_nil))))))
      (pss_one (ps_ret (pv 3))))), ?_⟩)
  · obtain ⟨P', ls, s', sets, rfl, hL, hlen, hP, hls, hQ⟩ := h
    rfl
  obtain ⟨P', ls, s', sets, rfl, hL, hlen, hP, hls, hQ⟩ := h
  walk_at "wp"
  refine ⟨szI, fun p hp => ?_⟩
  walk_at "om"
  refine lp_rng (fun i σ' H' => ∃ x y z, σ' = [some (.int P'), some (.str (tx ls)), some (.ref s'), some (.ref p), x, y, z] ∧ Ex H H' ∧ H' p = some (.lst (sv (mapr i (wordAt ls sets))))) ⟨_, _, _, rfl, Evl.Ex.new hp, upd_same⟩ ?_ ?_
  · rintro i σ' H' hi ⟨x, y, z, rfl, hx, hl⟩
    walk_at "wp"
    walk_at "om"
    intro D hD
    refine lc_rngF (fun k : Nat => decide ((i : Int) ∈ sets.getD k [])) (fun k => .str (tx [ls.getD k 0])) (by omega) hD (fun _ => rfl) ?_ ?_ ?_
    · intro k H3 hk hx3 Q' q'
      simp only [wipe]
      walk_at "wp"
      refine ixL_row k (hL.mono (hx.trans hx3)) rfl (by omega) fun r hr => ?_
      refine in_int hr ?_
      walk_at "wp"
      exact q' _ (Evl.Ex.refl _)
    · intro k H3 hk _ hx3 Q' q'
      simp only [wipe]
      walk_at "wp"
      refine ixS_t k rfl (by omega) (by omega) ?_
      exact q' _ (Evl.Ex.refl _)
    · intro H3 hx3 hD3
      walk_at "wp"
      rw [given_sv] at hD3
      refine ⟨tyL (hx3 _ _ hl), join_ok (Evl.sq_of hD3) ?_ ?_⟩
      · rw [singles_sum]
        have := List.length_filter_le (fun k : Nat => decide ((i : Int) ∈ sets.getD k [])) (List.range ((ls.length : Int)).toNat)
        rw [List.length_range] at this
        omega
      · rw [singles_flat]
        refine app_ok (hx3 _ _ hl) (by rw [sv_len, mapr_len]; omega) ?_
        refine ⟨(hx.trans hx3).mut hp, ?_⟩
        rw [upd_same, mapr_succ]
        simp [sv, wordAt]
  · rintro σ' H' ⟨x, y, z, rfl, hx, hl⟩
    walk_at "wp"
    exact hQ p H' hp hx hl
def sp_law_begin (K : Frag) : Sp := fun vs H Q _ => ∃ (a : Addr) (ns : List Int), vs = [.ref a] ∧ SqL K H a (ns.map V.int) ∧ ns.length ≤ 100 ∧ ∀ st ce H', Ex H H' → StAt H' st ce → Q (.ref st) H'
theorem sc_law_begin : FnScope ["_law_script", "_law_cell"] ["_law_script"] (defScope s_law_begin) := ⟨rfl, rfl, rfl, by decide +kernel, rfl, by decide +kernel, by decide +kernel⟩
theorem b_law_begin {K : Frag} {mg : Str → Option Value} (c : Wd K mg) : Binds K (fdOf K (gA K "_law_begin")) ["_law_script"] [] := c.f_law_begin.binds (fun _ _ _ _ _ _ us hl => match us, hl with | [_], _ => rfl)
theorem ok_law_begin {P : Program} {w : World} {K : Frag} {mg : Str → Option Value} {base : Heap} (c : Wd K mg) : FnOk P w K mg base (L2.CX P w) 1 (gA K "_law_begin") (fdOf K (gA K "_law_begin")) ["_law_script"] (sp_law_begin K) := by
  refine c.f_law_begin.okX sc_law_begin (fun vs H Q E h => ?_) (fun cdv A outer s H vs Q E hr h => ⟨_, PSs.nox (pss_one (ps_ret (pe_lst (pa_cons pe_int (pa_cons pe_int (pa_cons (pe_lc (own := [("_law_cell", 1)]) (g := gName 1) rfl sc_law_begin.nd (pi_list (pe_slice sl_list (pv 0) po_none (po_some pe_int))) (blkOk_by (own := [("_law_cell", 1)]) (N := ["_law_script", "_law_cell"]) (sc := defScope s_law_begin) (by decide +kernel)) (fun _ _ _ _ _ => (pg_name (i := 1) sc_law_begin.nd rfl (Or.inl rfl))) (fun _ _ _ _ _ => pts_nil) (fun _ _ _ _ _ => (pe_callTy call_int1 (by rfl) c.z_int (by decide +kernel) (pa_cons (pv 1) pa_nil)))) pa_nil)))))), ?_⟩)
  · obtain ⟨a, ns, rfl, hS, hz, hQ⟩ := h
    rfl
  obtain ⟨a, ns, rfl, hS, hz, hQ⟩ := h
  walk_at "wp"
  refine ⟨a, _, rfl, hS, fun p hp => ?_⟩
  have hcut : cutV (ns.map V.int) none (some 63) = (ns.take 63).map V.int := by
    unfold cutV
    rw [HT.sIx_none, show (some (63 : Int)) = some ((63 : Nat) : Int) from rfl, HT.sIx_nat, List.drop_zero, ← List.map_take, List.length_map]
    congr 1
    by_cases h : 63 ≤ ns.length
    · rw [Nat.min_eq_left h]
    · rw [Nat.min_eq_right (by omega), List.take_of_length_le (by omega), List.take_of_length_le (by omega)]
  rw [hcut]
  have hp1 : SqL K (upd H p (.lst ((ns.take 63).map V.int))) p ((ns.take 63).map V.int) := Evl.sq_of upd_same
  walk_at "wp"
  refine ⟨⟨_, hp1⟩, fun D hD => ?_⟩
  refine lc_listF hp1 (fun _ => true) (fun i => .int ((ns.take 63).getD i 0)) (by simp; omega) hD (fun _ => rfl) ?_ ?_ ?_
  · intro i H3 hi hx3 Q' q'
    simp only [wipe]
    walk_at "wp"
    exact q' _ (Evl.Ex.refl _)
  · intro i H3 hi _ hx3 Q' q'
    simp only [wipe]
    rw [List.length_map] at hi
    have e : ((ns.take 63).map V.int).getD i .non = .int ((ns.take 63).getD i 0) := by
      rw [List.getD_eq_getElem?_getD, List.getD_eq_getElem?_getD, List.getElem?_map, List.getElem?_eq_getElem hi]
      rfl
    rw [e]
    walk_at "wp"
    exact q' _ (Evl.Ex.refl _)
  · intro H3 hx3 hD3
    walk_at "wp"
    refine ⟨szI, fun st hst => ?_⟩
    refine hQ st D _ (((Evl.Ex.new hp).trans hx3).trans (Evl.Ex.new hst)) ⟨0, 0, mapr ((ns.take 63).map V.int).length fun i => (ns.take 63).getD i 0, upd_same, ?_⟩
    rw [upd_ne (ne_of_none hD3 hst), hD3]
    unfold Evl.given mapr
    rw [List.filter_eq_self.mpr (fun _ _ => rfl), List.map_map]
    rfl
end DR

set_option Elab.async false
set_option linter.all false
set_option maxRecDepth 100000
set_option maxHeartbeats 4000000
/-! calendars: mirrors and what stands -/
namespace DR
open PySem PySem.Spec PyProof.Rows L2
open PySem.W (Frag)
def rLeS : R2 := fun x y H Q => ∃ i j, x = .str i ∧ y = .str j ∧ Q (.bl (!decide (j.cps.toList < i.cps.toList))) H
theorem op_leS {X : Cx} : OpR X (compareOp .LtE) rLeS := op_le_str
theorem ap_leS {a b : List Nat} {H : Hp} {Q : VK} : rLeS (.str (tx a)) (.str (tx b)) H Q = Q (.bl (!decide (b < a))) H := by
  refine propext ⟨?_, fun q => ⟨_, _, rfl, rfl, by rw [tx_toList, tx_toList]; exact q⟩⟩
  rintro ⟨_, _, e1, e2, q⟩
  cases e1
  cases e2
  rw [tx_toList, tx_toList] at q
  exact q
def alpha : List Nat := List.range' 97 26
theorem lit_alpha : (Str.ofString "abcdefghijklmnopqrstuvwxyz" : Str) = tx alpha := by decide +kernel
theorem mem_alpha {c : Nat} : c ∈ alpha ↔ 97 ≤ c ∧ c < 123 := by
  unfold alpha
  rw [List.mem_range'_1]
theorem nil_lt (c : Nat) : ([] : List Nat) < [c] := List.nil_lt_cons c []
theorem one_lt {p c : Nat} : ([p] : List Nat) < [c] ↔ p < c := by
  simp [List.cons_lt_cons_iff]
def risingB (t : List Nat) : Bool := (List.range t.length).all fun i => decide (97 ≤ t.getD i 0) && (decide (t.getD i 0 < 123) && (decide (i = 0) || decide (t.getD (i - 1) 0 < t.getD i 0)))
theorem risingB_iff {t : List Nat} : risingB t = true ↔ ∀ i, i < t.length → 97 ≤ t.getD i 0 ∧ t.getD i 0 < 123 ∧ (i = 0 ∨ t.getD (i - 1) 0 < t.getD i 0) := by
  simp only [risingB, List.all_eq_true, List.mem_range, Bool.and_eq_true, decide_eq_true_eq, Bool.or_eq_true]
def CalAt (K : Frag) (H : Hp) (a : Addr) (ws : List (List Nat)) : Prop := ∃ dx w, H a = some (.ins (gA K "Calendar") dx [("_words", .ref w)]) ∧ H w = some (.lst (sv ws))
theorem CalAt.monoD {K : Frag} {H H' : Hp} {a : Addr} {ws : List (List Nat)} (e : ExD H H') (h : CalAt K H a ws) : CalAt K H' a ws := by
  obtain ⟨dx, w, h1, h2⟩ := h
  exact ⟨dx, w, e _ _ h1 isSt_ins, e _ _ h2 isSt_sv⟩
theorem CalAt.mono {K : Frag} {H H' : Hp} {a : Addr} {ws : List (List Nat)} (e : Ex H H') (h : CalAt K H a ws) : CalAt K H' a ws := h.monoD (.of e)
theorem CalAt.words {K : Frag} {mg : Str → Option Value} {H : Hp} {Q : VK} {a : Addr} {ws : List (List Nat)} (c : Wd K mg) (h : CalAt K H a ws) (q : ∀ w, H w = some (.lst (sv ws)) → Q (.ref w) H) : rFld K "_words" (.ref a) H Q := by
  obtain ⟨dx, w, h1, h2⟩ := h
  exact fld_ok h1 c.c_Calendar c.a_Calendar_words (by rfl) (q w h2)
theorem CalAt.prop {K : Frag} {H : Hp} {P : Addr → Prop} {a : Addr} {ws : List (List Nat)} (h : CalAt K H a ws) (q : P a) : rProp (gA K "Calendar") (.ref a) H P := by
  obtain ⟨dx, b, h1, h2⟩ := h
  exact prop_ok h1 q
theorem CalAt.inst {K : Frag} {H : Hp} {P : Prop} {a : Addr} {ws : List (List Nat)} (h : CalAt K H a ws) (q : P) : rInst (gA K "Calendar") "stands" (.ref a) H P := by
  obtain ⟨dx, b, h1, h2⟩ := h
  exact inst_ok h1 (by rfl) q
def signsOf (ws : List (List Nat)) : List Nat := alpha.filter fun c => decide (c ∈ ws.flatten)
def standsOf (ws : List (List Nat)) (c : Nat) : List Int := ((List.range ws.length).filter fun i : Nat => decide (c ∈ ws.getD i [])).map fun i : Nat => (i : Int)
/-! trees of the law -/
def LT (H : Hp) (p : Addr) (m : Nat) (rows : List (List Int)) : Prop := ∃ as : List Addr, H p = some (.lst (.int m :: as.map V.ref)) ∧ as.length = rows.length ∧ ∀ i, i < rows.length → ∃ a, as[i]? = some a ∧ H a = some (.lst ((rows.getD i []).map V.int))
theorem isSt_tree {m : Nat} {as : List Addr} : ¬ isSt (.lst (.int m :: as.map V.ref)) := by
  rintro ⟨n, i, c, h⟩
  simp only [HO.lst.injEq] at h
  match as, h with
  | a :: r, h => simp at h
theorem LT.monoD {H H' : Hp} {p : Addr} {m : Nat} {rows : List (List Int)} (e : ExD H H') (h : LT H p m rows) : LT H' p m rows := by
  obtain ⟨as, h1, h2, h3⟩ := h
  refine ⟨as, e _ _ h1 isSt_tree, h2, fun i hi => ?_⟩
  obtain ⟨a, ha, hb⟩ := h3 i hi
  exact ⟨a, ha, e _ _ hb isSt_ints⟩
theorem LT.push {H : Hp} {p q : Addr} {m : Nat} {rows : List (List Int)} {as : List Addr} {r : List Int} (h : LT H p m rows) (ha : H p = some (.lst (.int m :: as.map V.ref))) (hq : H q = some (.lst (r.map V.int))) (hne : q ≠ p)
    (hr : ∀ x ∈ rows, x.length = 3) : LT (upd H p (.lst ((.int m :: as.map V.ref) ++ [.ref q]))) p m (rows ++ [r]) := by
  obtain ⟨bs, h1, h2, h3⟩ := h
  rw [ha] at h1
  have e : as = bs := by
    have := Option.some.inj h1
    simp only [HO.lst.injEq, List.cons.injEq, true_and] at this
    exact mapref_inj this
  subst e
  refine ⟨as ++ [q], by rw [upd_same]; simp, by simp [h2], fun i hi => ?_⟩
  rw [List.length_append, List.length_singleton] at hi
  by_cases hlt : i < rows.length
  · obtain ⟨a, e1, e2⟩ := h3 i hlt
    refine ⟨a, by rw [List.getElem?_append_left (by omega)]; exact e1, ?_⟩
    have hap : a ≠ p := by
      rintro rfl
      rw [ha] at e2
      have := Option.some.inj e2
      simp only [HO.lst.injEq] at this
      have hr3 := hr (rows.getD i []) (by rw [List.getD_eq_getElem?_getD, List.getElem?_eq_getElem hlt]; exact List.getElem_mem hlt)
      match rows.getD i [], hr3, this with
      | [x, y, z], _, this =>
        cases as with
        | nil => simp at this
        | cons b bs => simp at this
    rw [upd_ne hap, e2]
    simp [List.getElem?_append_left hlt]
  · have : i = rows.length := by omega
    subst this
    refine ⟨q, by rw [← h2]; simp, ?_⟩
    rw [upd_ne hne, hq]
    simp
/-- a plain saying of the law's tree: [low + b, low + e, n] with b ≤ e ≤ size -/
def okRow (low : Int) (size : Nat) (r : List Int) : Prop := ∃ (b e : Nat) (n : Int), r = [low + b, low + e, n] ∧ b ≤ e ∧ e ≤ size ∧ -1 ≤ n ∧ n ≤ 10
end DR

set_option Elab.async false
set_option linter.all false
set_option maxRecDepth 100000
set_option maxHeartbeats 4000000
namespace DR
open PySem PySem.Spec PyProof.Rows L2
open PySem.W (Frag)
local macro_rules
  | `(tactic| walk_at "wp") => `(tactic| try simp only [L2.start, List.map_cons, List.map_nil, List.length_cons, List.length_nil, List.replicate, Nat.reduceAdd, Nat.reduceSub, List.cons_append, List.nil_append, List.append_nil, List.set_cons_succ, List.set_cons_zero,
      List.getElem?_cons_succ, List.getElem?_cons_zero, ap_K1, ap_K2, ap_seq, ap_next, ap_asg, ap_name, ap_ret, ap_retN, ap_drop, ap_ifS, ap_c, ap_var, ap_op, ap_un, ap_chain, ap_test, ap_B, ap_and, ap_or, ap_not, ap_yes, ap_andV, ap_orV, ap_notV, ap_if, ap_nil, ap_cons, ap_cb, ap_lst, ap_tup, ap_bm, ap_bm0, ap_m1, ap_call, ap_sl, ap_part, ap_nopart, ap_rI0, ap_rI, ap_rU, ap_eqI, ap_neI, ap_eqS, ap_neS, ap_eqB, ap_neB, ap_fld, ap_tup_, ap_gcons, ap_gnil, ap_gsub, ap_for, ap_lc, ap_rng1, ap_rng2, ap_list, ap_itup, ap_str, ap_enum, ap_zip, ap_inSg, ap_ninSg, ap_addS, ap_sfld, ap_meth, ap_prop, ap_make, ap_smeth, ap_never, ap_ost, ap_callS, ap_mko, ap_enumS, ap_zipS, ap_rng3, ap_listRg, ap_leS, lit_alpha,  ap_rg1, ap_cval, len_abcdef, exists_and_left, exists_and_right, exists_eq_left', and_assoc, exists_eq_left, exists_eq, exists_eq', Option.some.injEq, V.int.injEq, V.str.injEq, V.ref.injEq, V.bl.injEq, V.ty.injEq, List.cons.injEq, and_true, true_and, decide_eq_true_eq, Bool.not_eq_true', decide_eq_false_iff_not, Bool.false_eq_true, if_true, if_false, reduceCtorEq, false_and, and_false, or_false, false_or, or_true, true_or, not_true_eq_false, not_false_eq_true, Int.zero_add, lit_nil, lit_a, tx_len, one_tx, tx_app, tx_inj, exists_const, forall_const])
  | `(tactic| walk_at "om") => `(tactic| repeat (refine ⟨by first | omega | exact szI, ?_⟩))

def sp_law_tree (K : Frag) : Sp := fun vs H Q _ => ∃ (st ce : Addr) (low : Int) (size : Nat), vs = [.ref st, .int low, .int size] ∧ StAt H st ce ∧ size ≤ 5 ∧ ∀ (m : Nat) (rows : List (List Int)) p H', m < 8 → rows.length = 3 → (∀ r ∈ rows, okRow low size r) → ExD H H' → StAt H' st ce → LT H' p m rows → Q (.ref p) H'
theorem okRow_len {low : Int} {size : Nat} {r : List Int} (h : okRow low size r) : r.length = 3 := by
  obtain ⟨b, e, n, rfl, _⟩ := h
  rfl
theorem sc_law_tree : FnScope ["_law_state", "_law_low", "_law_size", "_law_tree_here", "_law_k", "_law_begin_here", "_law_end", "_law_number"] ["_law_state", "_law_low", "_law_size"] (defScope s_law_tree) := ⟨rfl, rfl, rfl, by decide +kernel, rfl, by decide +kernel, by decide +kernel⟩
theorem b_law_tree {K : Frag} {mg : Str → Option Value} (c : Wd K mg) : Binds K (fdOf K (gA K "_law_tree")) ["_law_state", "_law_low", "_law_size"] [] := c.f_law_tree.binds (fun _ _ _ _ _ _ us hl => match us, hl with | [_, _, _], _ => rfl)
theorem ok_law_tree {P : Program} {w : World} {K : Frag} {mg : Str → Option Value} {base : Heap} (c : Wd K mg) : FnOk P w K mg base (L2.CX P w) 3 (gA K "_law_tree") (fdOf K (gA K "_law_tree")) ["_law_state", "_law_low", "_law_size"] (sp_law_tree K) := by
  refine c.f_law_tree.okX sc_law_tree (fun vs H Q E h => ?_) (fun cdv A outer s H vs Q E hr h => ⟨_, PSs.nox (pss_cons (ps_set (i := 3) sc_law_tree.nd rfl (Or.inl rfl) (pe_lst (pa_cons (pe_call (ok_law_draw c) (hr.mono (by decide)) rfl c.g_law_draw c.f_law_draw.kp (b_law_draw c) .nil passL (pa_cons (pv 0) (pa_cons pe_int pa_nil))) pa_nil)))
      (pss_cons (ps_for PassesOwn.never rfl (pi_range1 rfl c.z_range (pa_cons pe_int pa_nil)) (pg_name (i := 4) sc_law_tree.nd rfl (Or.inl rfl)) (pss_cons (ps_set (i := 5) sc_law_tree.nd rfl (Or.inl rfl) (pe_call (ok_law_draw c) (hr.mono (by decide)) rfl c.g_law_draw c.f_law_draw.kp (b_law_draw c) .nil passL (pa_cons (pv 0) (pa_cons (pe_op op_add (pv 2) pe_int) pa_nil))))
      (pss_cons (ps_set (i := 6) sc_law_tree.nd rfl (Or.inl rfl) (pe_op op_sub (pv 2) (pe_call (ok_law_draw c) (hr.mono (by decide)) rfl c.g_law_draw c.f_law_draw.kp (b_law_draw c) .nil passL (pa_cons (pv 0) (pa_cons (pe_op op_add (pe_op op_sub (pv 2) (pv 5)) pe_int) pa_nil)))))
      (pss_cons (ps_set (i := 7) sc_law_tree.nd rfl (Or.inl rfl) (pe_op op_sub (pe_op op_mod (pe_callTy call_int1 (by rfl) c.z_int (by decide +kernel) (pa_cons (pe_op op_add (pe_op op_add (pe_call (ok_law_draw c) (hr.mono (by decide)) rfl c.g_law_draw c.f_law_draw.kp (b_law_draw c) .nil passL (pa_cons (pv 0) (pa_cons (pe_op op_add (pv 2) pe_int) pa_nil))) pe_int) (pv 4)) pa_nil)) (pe_op op_add (pv 2) pe_int)) pe_int))
      (pss_one (ps_expr (pe_bm PySem.F.plainAttrs_list PySem.F.slot_list_append PySem.F.type_list_append mt_append (pv 3) (pa_cons (pe_lst (pa_cons (pe_op op_add (pv 1) (pv 5)) (pa_cons (pe_op op_add (pv 1) (pv 6)) (pa_cons (pv 7) pa_nil)))) pa_nil))))))))
      (pss_one (ps_ret (pv 3))))), ?_⟩)
  · obtain ⟨st, ce, low, size, rfl, hst, hsz, hQ⟩ := h
    rfl
  obtain ⟨st, ce, low, size, rfl, hst, hsz, hQ⟩ := h
  walk_at "wp"
  refine ⟨st, ce, 8, rfl, hst, by omega, by omega, fun m H0 hm hx0 hs0 => ?_⟩
  walk_at "wp"
  refine ⟨szI, fun p hp => ?_⟩
  walk_at "om"
  refine lp_rng (fun i σ' H' => ∃ x y z w, ∃ rows : List (List Int), σ' = [some (.ref st), some (.int low), some (.int size), some (.ref p), x, y, z, w] ∧ ExD H0 H' ∧ StAt H' st ce ∧ LT H' p m rows ∧ rows.length = i ∧ (∀ r ∈ rows, okRow low size r))
    ⟨_, _, _, _, [], rfl, .of (Evl.Ex.new hp), hs0.mono (Evl.Ex.new hp), ⟨[], upd_same, rfl, fun i hi => absurd hi (Nat.not_lt_zero i)⟩, rfl, fun k hk => nomatch hk⟩ ?_ ?_
  · rintro i σ' H' hi ⟨x, y, z, w, rows, rfl, hx, hs, hL, hc, hrs⟩
    have hi : i < 3 := hi
    walk_at "wp"
    refine ⟨st, ce, size + 1, by simp, hs, by omega, by omega, fun b H1 hb hx1 hs1 => ?_⟩
    walk_at "wp"
    refine ⟨st, ce, size - b + 1, by rw [show (size : Int) - b + 1 = ((size - b + 1 : Nat) : Int) by omega], hs1, by omega, by omega, fun e H2 he hx2 hs2 => ?_⟩
    walk_at "wp"
    refine ⟨st, ce, size + 3, by rw [show (size : Int) + 3 = ((size + 3 : Nat) : Int) by omega], hs2, by omega, by omega, fun n H3 hn hx3 hs3 => ?_⟩
    walk_at "wp"
    have hL3 := ((hL.monoD hx1).monoD hx2).monoD hx3
    obtain ⟨as, ha, hb'⟩ := id hL3
    have hn1 : 0 ≤ ((n : Int) + 2 + i) % (size + 3) := Int.emod_nonneg _ (by omega)
    have hn2 : ((n : Int) + 2 + i) % (size + 3) < size + 3 := Int.emod_lt_of_pos _ (by omega)
    revert hn1 hn2
    generalize ((n : Int) + 2 + i) % (size + 3) = num
    intro hn1 hn2
    refine ⟨by omega, Or.inl ⟨rfl, _, Or.inl (Or.inl ha)⟩, szI, fun q hq => ?_⟩
    have hxq := Evl.Ex.new (o := .lst [.int (low + b), .int (low + (size - e)), .int (num - 1)]) hq
    have hL4 := hL3.monoD (.of hxq)
    refine app_ok (hxq _ _ ha) (by simp [hb'.1]; omega) ?_
    have hqp : q ≠ p := by rintro rfl; rw [hq] at ha; cases ha
    refine ⟨(((hx.trans hx1).trans hx2).trans hx3).then hxq |>.mut hp, (hs3.mono hxq).mut (hs0.ne hp), rows ++ [[low + b, low + (size - e), num - 1]], ?_, by simp [hc], fun r hr => ?_⟩
    · exact hL4.push (hxq _ _ ha) upd_same hqp fun r hr => okRow_len (hrs r hr)
    · rcases List.mem_append.mp hr with hr | hr
      · exact hrs r hr
      · rw [List.mem_singleton] at hr
        subst hr
        exact ⟨b, size - e, num - 1, by rw [show ((size - e : Nat) : Int) = size - e by omega], by omega, by omega, by omega, by omega⟩
  · rintro σ' H' ⟨x, y, z, w, rows, rfl, hx, hs, hL, hc, hrs⟩
    walk_at "wp"
    exact hQ m rows p H' hm hc hrs (hx0.trans hx) hs hL
def sp_is_rising (K : Frag) : Sp := fun vs H Q _ => ∃ t : List Nat, vs = [.str (tx t)] ∧ risingB t = true ∧ Q (.bl true) H
theorem sc_is_rising : FnScope ["word", "before", "letter"] ["word"] (defScope s_is_rising) := ⟨rfl, rfl, rfl, by decide +kernel, rfl, by decide +kernel, by decide +kernel⟩
theorem b_is_rising {K : Frag} {mg : Str → Option Value} (c : Wd K mg) : Binds K (fdOf K (gA K "is_rising")) ["word"] [] := c.f_is_rising.binds (fun _ _ _ _ _ _ us hl => match us, hl with | [_], _ => rfl)
theorem ok_is_rising {P : Program} {w : World} {K : Frag} {mg : Str → Option Value} {base : Heap} (c : Wd K mg) : FnOk P w K mg base (L2.CX P w) 1 (gA K "is_rising") (fdOf K (gA K "is_rising")) ["word"] (sp_is_rising K) := by
  refine c.f_is_rising.okX sc_is_rising (fun vs H Q E h => ?_) (fun cdv A outer s H vs Q E hr h => ⟨_, PSs.nox (pss_cons (ps_set (i := 1) sc_is_rising.nd rfl (Or.inl rfl) pe_str)
      (pss_cons (ps_for PassesOwn.never rfl (pi_str (pv 0)) (pg_name (i := 2) sc_is_rising.nd rfl (Or.inl rfl)) (pss_cons (ps_if (PW.pt (pw_or (pt_cmpR op_ninSg (pv 2) (pe_txt rfl c.k_LETTERS_calendars) rfl) (pw_or1 (pt_cmpR op_leS (pv 2) (pv 1) (nomark _))))) (pss_one (ps_ret pe_bl)) pss_nil)
      (pss_one (ps_set (i := 1) sc_is_rising.nd rfl (Or.inl rfl) (pv 2)))))
      (pss_one (ps_ret pe_bl)))), ?_⟩)
  · obtain ⟨t, rfl, hr, hQ⟩ := h
    rfl
  obtain ⟨t, rfl, hr, hQ⟩ := h
  have hr := risingB_iff.mp hr
  walk_at "wp"
  refine lp_str (fun i σ' H' => ∃ y, σ' = [some (.str (tx t)), some (.str (tx (if i = 0 then [] else [t.getD (i - 1) 0]))), y] ∧ H' = H) ⟨_, rfl, rfl⟩ ?_ ?_
  · rintro i σ' H' hi ⟨y, rfl, rfl⟩
    obtain ⟨r1, r2, r3⟩ := hr i hi
    walk_at "wp"
    have hm : t.getD i 0 ∈ alpha := mem_alpha.mpr ⟨r1, r2⟩
    have hlt : (if i = 0 then [] else [t.getD (i - 1) 0]) < [t.getD i 0] := by
      split
      · exact nil_lt _
      · rcases r3 with r3 | r3
        · contradiction
        · exact one_lt.mpr r3
    rw [if_neg (fun h => h hm), if_neg (fun h => h hlt)]
    simp
  · rintro σ' H' ⟨y, rfl, rfl⟩
    walk_at "wp"
    exact hQ
def sp_Calendar_init (K : Frag) : Sp := fun vs H Q _ => ∃ (x dx w0 : Addr) (ws : List (List Nat)), vs = [.ref x, .ref w0] ∧ H x = some (.ins (gA K "Calendar") dx []) ∧ H w0 = some (.lst (sv ws)) ∧ 1 ≤ ws.length ∧ ws.length ≤ 6 ∧ (∀ t ∈ ws, risingB t = true) ∧ ∀ H', ExB x H H' → CalAt K H' x ws → Q .non H'
theorem sc_Calendar_init : FnScope ["self", "words", "place", "word"] ["self", "words"] (defScope s_Calendar_init) := ⟨rfl, rfl, rfl, by decide +kernel, rfl, by decide +kernel, by decide +kernel⟩
theorem b_Calendar_init {K : Frag} {mg : Str → Option Value} (c : Wd K mg) : Binds K (fdOf K (mA K "Calendar" "__init__")) ["self", "words"] [] := c.f_Calendar_init.binds (fun _ _ _ _ _ _ us hl => match us, hl with | [_, _], _ => rfl)
theorem ok_Calendar_init {P : Program} {w : World} {K : Frag} {mg : Str → Option Value} {base : Heap} (c : Wd K mg) : FnOk P w K mg base (L2.CX P w) 3 (mA K "Calendar" "__init__") (fdOf K (mA K "Calendar" "__init__")) ["self", "words"] (sp_Calendar_init K) := by
  refine c.f_Calendar_init.okX sc_Calendar_init (fun vs H Q E h => ?_) (fun cdv A outer s H vs Q E hr h => ⟨_, PSs.nox (pss_cons (ps_if (pt_not (pt_chain op_le op_le pe_int (pe_callB call_lenV (by rfl) c.z_len (by decide +kernel) (pa_cons (pv 1) pa_nil)) (pe_num rfl c.k_MOST_PLACES))) (pss_one ps_never) pss_nil)
      (pss_cons (ps_for PassesOwn.never rfl (pi_enum (by rfl) c.z_enumerate (pa_cons (pv 1) pa_nil)) (pg_tup (n := 2) rfl (pgs_cons (pg_name (i := 2) sc_Calendar_init.nd rfl (Or.inl rfl)) (pgs_cons (pg_name (i := 3) sc_Calendar_init.nd rfl (Or.inl rfl)) pgs_nil))) (pss_one (ps_if (pt_not (pt_val (pe_call (ok_is_rising c) (hr.mono (by decide)) rfl c.g_is_rising c.f_is_rising.kp (b_is_rising c) .nil passL (pa_cons (pv 3) pa_nil)))) (pss_one ps_never) pss_nil)))
      (pss_one (ps_fld (pv 0) (pe_callTy call_listV (by rfl) c.z_list (by decide +kernel) (pa_cons (pv 1) pa_nil)) rfl)))), ?_⟩)
  · obtain ⟨x, dx, w0, ws, rfl, hx, hw, h1, h6, hr, hQ⟩ := h
    rfl
  obtain ⟨x, dx, w0, ws, rfl, hx, hw, h1, h6, hr, hQ⟩ := h
  walk_at "wp"
  refine len_l (Evl.sq_of hw) rfl ?_
  rw [sv_len]
  walk_at "wp"
  rw [if_pos (by omega)]
  walk_at "wp"
  rw [if_neg (by omega)]
  refine ⟨⟨_, Evl.sq_of hw⟩, ?_⟩
  refine lp_it walk_enum (fun i σ' H' => ∃ y z, σ' = [some (.ref x), some (.ref w0), y, z] ∧ Ex H H') ⟨_, _, rfl, Evl.Ex.refl _⟩ (fun i σ' H' _ ⟨_, _, _, e⟩ => Evl.ex_l e (Evl.sq_of hw)) ?_ ?_
  · rintro i v σ' H1 H' hi ⟨y, z, rfl, hx1⟩ ⟨T, u1, u2, rfl, hT0, rfl, e1, e2⟩
    rw [sv_len] at hi
    cases e1
    have e2 : (sv ws)[i]? = some u2 := e2
    unfold sv at e2
    rw [List.getElem?_map, List.getElem?_eq_getElem hi] at e2
    simp only [Option.map_some, Option.some.injEq] at e2
    subst e2
    walk_at "wp"
    refine ⟨_, Evl.st_of upd_same, ?_⟩
    walk_at "wp"
    refine ⟨ws[i], rfl, hr _ (List.getElem_mem hi), ?_⟩
    walk_at "wp"
    exact hx1.trans (Evl.Ex.new hT0)
  · rintro σ' H' ⟨y, z, rfl, hx1⟩
    walk_at "wp"
    refine list_l (Evl.sq_of (hx1 _ _ hw)) fun l hl => ?_
    walk_at "wp"
    have hxl : x ≠ l := ne_of_none (hx1 _ _ hx) hl
    refine sfld_ok (by rw [upd_ne hxl]; exact hx1 _ _ hx) c.c_Calendar c.a_Calendar_words (by decide) (hQ _ (fun a o ha he => ?_) ⟨dx, l, by rw [upd_same]; rfl, by rw [upd_ne (Ne.symm hxl), upd_same]⟩)
    rw [upd_ne ha, upd_ne (ne_of_none (hx1 _ _ he) hl)]
    exact hx1 _ _ he
theorem mk_cal {K : Frag} {w0 : Addr} {ws : List (List Nat)} {H : Hp} {Q : VK} {E : XK} (hw : H w0 = some (.lst (sv ws))) (h1 : 1 ≤ ws.length) (h6 : ws.length ≤ 6) (hr : ∀ t ∈ ws, risingB t = true) (q : ∀ p H', H p = none → Ex H H' → CalAt K H' p ws → Q (.ref p) H') :
    rMake (gA K "Calendar") (fun x H2 => sp_Calendar_init K (.ref x :: ([.ref w0] ++ [])) H2 (fun v H3 => v = .non ∧ Q (.ref x) H3) E) H := by
  intro x dx hx hdx hne
  refine ⟨x, dx, w0, ws, rfl, upd_same, by rw [upd_ne (ne_of_none hw hx), upd_ne (ne_of_none hw hdx)]; exact hw, h1, h6, hr, fun H' e h => ⟨rfl, q x H' hx (fun a o ha => ?_) h⟩⟩
  have h1 : a ≠ x := ne_of_none ha hx
  exact e a o h1 (by rw [upd_ne h1, upd_ne (ne_of_none ha hdx)]; exact ha)
def sp_Calendar_n (K : Frag) : Sp := fun vs H Q _ => ∃ (a : Addr) (ws : List (List Nat)), vs = [.ref a] ∧ CalAt K H a ws ∧ Q (.int (ws.length : Int)) H
theorem sc_Calendar_places : FnScope ["self"] ["self"] (defScope s_Calendar_places) := ⟨rfl, rfl, rfl, by decide +kernel, rfl, by decide +kernel, by decide +kernel⟩
theorem b_Calendar_places {K : Frag} {mg : Str → Option Value} (c : Wd K mg) : Binds K (fdOf K (pA K "Calendar" "places")) ["self"] [] := c.f_Calendar_places.binds (fun _ _ _ _ _ _ us hl => match us, hl with | [_], _ => rfl)
theorem ok_Calendar_places {P : Program} {w : World} {K : Frag} {mg : Str → Option Value} {base : Heap} (c : Wd K mg) : FnOk P w K mg base (L2.CX P w) 1 (pA K "Calendar" "places") (fdOf K (pA K "Calendar" "places")) ["self"] (sp_Calendar_n K) := by
  refine c.f_Calendar_places.okX sc_Calendar_places (fun vs H Q E h => ?_) (fun cdv A outer s H vs Q E hr h => ⟨_, PSs.nox (pss_one (ps_ret (pe_callB call_lenV (by rfl) c.z_len (by decide +kernel) (pa_cons (pe_fld (pv 0) rfl) pa_nil)))), ?_⟩)
  · obtain ⟨a, ws, rfl, h, hQ⟩ := h
    rfl
  obtain ⟨a, ws, rfl, h, hQ⟩ := h
  walk_at "wp"
  refine h.words c fun w hw => len_l (Evl.sq_of hw) (by rw [sv_len]) hQ
theorem sc_Calendar_len : FnScope ["self"] ["self"] (defScope s_Calendar_len) := ⟨rfl, rfl, rfl, by decide +kernel, rfl, by decide +kernel, by decide +kernel⟩
theorem b_Calendar_len {K : Frag} {mg : Str → Option Value} (c : Wd K mg) : Binds K (fdOf K (mA K "Calendar" "__len__")) ["self"] [] := c.f_Calendar_len.binds (fun _ _ _ _ _ _ us hl => match us, hl with | [_], _ => rfl)
theorem ok_Calendar_len {P : Program} {w : World} {K : Frag} {mg : Str → Option Value} {base : Heap} (c : Wd K mg) : FnOk P w K mg base (L2.CX P w) 1 (mA K "Calendar" "__len__") (fdOf K (mA K "Calendar" "__len__")) ["self"] (sp_Calendar_n K) := by
  refine c.f_Calendar_len.okX sc_Calendar_len (fun vs H Q E h => ?_) (fun cdv A outer s H vs Q E hr h => ⟨_, PSs.nox (pss_one (ps_ret (pe_callB call_lenV (by rfl) c.z_len (by decide +kernel) (pa_cons (pe_fld (pv 0) rfl) pa_nil)))), ?_⟩)
  · obtain ⟨a, ws, rfl, h, hQ⟩ := h
    rfl
  obtain ⟨a, ws, rfl, h, hQ⟩ := h
  walk_at "wp"
  refine h.words c fun w hw => len_l (Evl.sq_of hw) (by rw [sv_len]) hQ
def sp_Calendar_signs (K : Frag) : Sp := fun vs H Q _ => ∃ (a : Addr) (ws : List (List Nat)), vs = [.ref a] ∧ CalAt K H a ws ∧ (ws.map List.length).sum ≤ 1000 ∧ ∀ H', Ex H H' → Q (.str (tx (signsOf ws))) H'
theorem sc_Calendar_signs : FnScope ["self", "standing", "letter"] ["self"] (defScope s_Calendar_signs) := ⟨rfl, rfl, rfl, by decide +kernel, rfl, by decide +kernel, by decide +kernel⟩
theorem b_Calendar_signs {K : Frag} {mg : Str → Option Value} (c : Wd K mg) : Binds K (fdOf K (pA K "Calendar" "signs")) ["self"] [] := c.f_Calendar_signs.binds (fun _ _ _ _ _ _ us hl => match us, hl with | [_], _ => rfl)
theorem ok_Calendar_signs {P : Program} {w : World} {K : Frag} {mg : Str → Option Value} {base : Heap} (c : Wd K mg) : FnOk P w K mg base (L2.CX P w) 1 (pA K "Calendar" "signs") (fdOf K (pA K "Calendar" "signs")) ["self"] (sp_Calendar_signs K) := by
  refine c.f_Calendar_signs.okX sc_Calendar_signs (fun vs H Q E h => ?_) (fun cdv A outer s H vs Q E hr h => ⟨_, PSs.nox (pss_cons (ps_set (i := 1) sc_Calendar_signs.nd rfl (Or.inr rfl) (pe_joinV pe_str (pe_fld (pv 0) rfl)))
      (pss_one (ps_ret (pe_joinV pe_str (pe_lc (own := [("letter", 2)]) (g := gName 2) rfl sc_Calendar_signs.nd (pi_str (pe_txt rfl c.k_LETTERS_calendars)) (blkOk_by (own := [("letter", 2)]) (N := ["self", "standing", "letter"]) (sc := defScope s_Calendar_signs) (by decide +kernel)) (fun _ _ _ _ _ => (pg_name (i := 2) sc_Calendar_signs.nd rfl (Or.inl rfl))) (fun _ _ _ _ _ => (pts_one (pt_cmpR op_inSg (pv 2) (pv 1) rfl))) (fun _ _ _ _ _ => (pv 2))))))), ?_⟩)
  · obtain ⟨a, ws, rfl, h, hz, hQ⟩ := h
    rfl
  obtain ⟨a, ws, rfl, h, hz, hQ⟩ := h
  walk_at "wp"
  refine h.words c fun w hw => ?_
  refine join_ok (Evl.sq_of hw) (by omega) ?_
  intro D hD
  refine lc_strF (t := alpha) (fun i => decide (alpha.getD i 0 ∈ ws.flatten)) (fun i => .str (tx [alpha.getD i 0])) (by decide) hD (fun _ => rfl) ?_ ?_ ?_
  · intro i H3 hi hx3 Q' q'
    simp only [wipe]
    walk_at "wp"
    exact q' _ (Evl.Ex.refl _)
  · intro i H3 hi _ hx3 Q' q'
    simp only [wipe]
    walk_at "wp"
    exact q' _ (Evl.Ex.refl _)
  · intro H3 hx3 hD3
    walk_at "wp"
    rw [given_sv] at hD3
    refine join_ok (Evl.sq_of hD3) ?_ ?_
    · rw [singles_sum]
      exact Nat.le_trans (List.length_filter_le _ _) (by decide)
    · rw [singles_flat]
      have e : ((List.range alpha.length).filter fun i => decide (alpha.getD i 0 ∈ ws.flatten)).map (fun i => alpha.getD i 0) = signsOf ws := by
        unfold signsOf
        conv => rhs; rw [show alpha = (List.range alpha.length).map (fun i => alpha.getD i 0) by decide]
        rw [List.filter_map]
        rfl
      rw [e]
      exact hQ H3 hx3
def sp_Calendar_stands (K : Frag) : Sp := fun vs H Q _ => ∃ (a : Addr) (ws : List (List Nat)) (ch : Nat), vs = [.ref a, .str (tx [ch])] ∧ CalAt K H a ws ∧ ws.length ≤ 10 ∧ standsOf ws ch ≠ [] ∧ ∀ p H', H p = none → Ex H H' → H' p = some (.lst ((standsOf ws ch).map V.int)) → Q (.ref p) H'
theorem sc_Calendar_stands : FnScope ["self", "sign", "places", "place", "word"] ["self", "sign"] (defScope s_Calendar_stands) := ⟨rfl, rfl, rfl, by decide +kernel, rfl, by decide +kernel, by decide +kernel⟩
theorem b_Calendar_stands {K : Frag} {mg : Str → Option Value} (c : Wd K mg) : Binds K (fdOf K (mA K "Calendar" "stands")) ["self", "sign"] [] := c.f_Calendar_stands.binds (fun _ _ _ _ _ _ us hl => match us, hl with | [_, _], _ => rfl)
theorem ok_Calendar_stands {P : Program} {w : World} {K : Frag} {mg : Str → Option Value} {base : Heap} (c : Wd K mg) : FnOk P w K mg base (L2.CX P w) 1 (mA K "Calendar" "stands") (fdOf K (mA K "Calendar" "stands")) ["self", "sign"] (sp_Calendar_stands K) := by
  refine c.f_Calendar_stands.okX sc_Calendar_stands (fun vs H Q E h => ?_) (fun cdv A outer s H vs Q E hr h => ⟨_, PSs.nox (pss_cons (ps_set (i := 2) sc_Calendar_stands.nd rfl (Or.inl rfl) (pe_lst pa_nil))
      (pss_cons (ps_for PassesOwn.never rfl (pi_enum (by rfl) c.z_enumerate (pa_cons (pe_fld (pv 0) rfl) pa_nil)) (pg_tup (n := 2) rfl (pgs_cons (pg_name (i := 3) sc_Calendar_stands.nd rfl (Or.inl rfl)) (pgs_cons (pg_name (i := 4) sc_Calendar_stands.nd rfl (Or.inl rfl)) pgs_nil))) (pss_one (ps_if (PW.pt (pw_and (pt_cmpR op_eq (pe_callB call_len_str (by rfl) c.z_len (by decide +kernel) (pa_cons (pv 1) pa_nil)) pe_int (nomark _)) (pw_and1 (pt_cmpR op_inSg (pv 1) (pv 4) rfl)))) (pss_one (ps_expr (pe_bm PySem.F.plainAttrs_list PySem.F.slot_list_append PySem.F.type_list_append mt_append (pv 2) (pa_cons (pv 3) pa_nil)))) pss_nil)))
      (pss_cons (ps_if (pt_cmpR op_eq (pe_callB call_lenV (by rfl) c.z_len (by decide +kernel) (pa_cons (pv 2) pa_nil)) pe_int (nomark _)) (pss_one ps_never) pss_nil)
      (pss_one (ps_ret (pv 2)))))), ?_⟩)
  · obtain ⟨a, ws, ch, rfl, h, hz, hne, hQ⟩ := h
    rfl
  obtain ⟨a, ws, ch, rfl, h, hz, hne, hQ⟩ := h
  walk_at "wp"
  refine ⟨szI, fun p hp => ?_⟩
  have hxp := Evl.Ex.new (o := .lst []) hp
  obtain ⟨dx, w, g1, g2⟩ := h
  have hpw : w ≠ p := ne_of_none g2 hp
  have hw := hxp _ _ g2
  refine fld_ok (hxp _ _ g1) c.c_Calendar c.a_Calendar_words (by rfl) ?_
  walk_at "wp"
  refine ⟨⟨_, Evl.sq_of hw⟩, ?_⟩
  refine lp_it walk_enum (fun i σ' H' => ∃ y z, σ' = [some (.ref a), some (.str (tx [ch])), some (.ref p), y, z] ∧ Ex H H' ∧ H' w = some (.lst (sv ws)) ∧ H' p = some (.lst (((List.range i).filter fun i : Nat => decide (ch ∈ ws.getD i [])).map fun i : Nat => V.int (i : Int)))) ⟨_, _, rfl, hxp, hw, upd_same⟩ (fun i σ' H' _ ⟨_, _, _, _, e, _⟩ => Evl.sq_of e) ?_ ?_
  · rintro i v σ' H1 H' hi ⟨y, z, rfl, hx1, hw1, hp1⟩ ⟨T, u1, u2, rfl, hT0, rfl, e1, e2⟩
    rw [sv_len] at hi
    cases e1
    have e2 : (sv ws)[i]? = some u2 := e2
    unfold sv at e2
    rw [List.getElem?_map, List.getElem?_eq_getElem hi] at e2
    simp only [Option.map_some, Option.some.injEq] at e2
    subst e2
    have hg : ws.getD i [] = ws[i] := by rw [List.getD_eq_getElem?_getD, List.getElem?_eq_getElem hi]; rfl
    have hxT := Evl.Ex.new (o := .tup [.int (i : Nat), .str (tx ws[i])]) hT0
    walk_at "wp"
    refine ⟨_, Evl.st_of upd_same, ?_⟩
    walk_at "wp"
    refine ⟨szI, ?_⟩
    walk_at "wp"
    rw [if_pos (by rfl)]
    split <;> rename_i hin
    · refine ⟨tyL (hxT _ _ hp1), app_ok (hxT _ _ hp1) ?_ ?_⟩
      · rw [List.length_map]
        have := List.length_filter_le (fun i : Nat => decide (ch ∈ ws.getD i [])) (List.range i)
        rw [List.length_range] at this
        omega
      · refine ⟨(hx1.trans hxT).mut hp, by rw [upd_ne hpw]; exact hxT _ _ hw1, ?_⟩
        rw [upd_same, List.range_succ, List.filter_append, List.map_append, List.filter_cons, if_pos (by rw [hg]; exact decide_eq_true hin)]
        rfl
    · refine ⟨hx1.trans hxT, hxT _ _ hw1, ?_⟩
      rw [hxT _ _ hp1, List.range_succ, List.filter_append, List.map_append, List.filter_cons, if_neg (by rw [hg]; simpa using hin)]
      simp
  · rintro σ' H' ⟨y, z, rfl, hx1, hw1, hp1⟩
    walk_at "wp"
    rw [sv_len] at hp1
    have e : (((List.range ws.length).filter fun i : Nat => decide (ch ∈ ws.getD i [])).map fun i : Nat => V.int (i : Int)) = (standsOf ws ch).map V.int := by simp [standsOf]
    rw [e] at hp1
    refine len_l (Evl.sq_of hp1) rfl ?_
    walk_at "wp"
    rw [if_neg]
    · exact hQ p H' hp hx1 hp1
    · rw [List.length_map]
      intro h0
      exact hne (List.eq_nil_of_length_eq_zero (by omega))
end DR

set_option Elab.async false
set_option linter.all false
set_option maxRecDepth 100000
set_option maxHeartbeats 4000000
namespace DR
open PySem PySem.Spec PyProof.Rows L2
open PySem.W (Frag)
local macro_rules
  | `(tactic| walk_at "wp") => `(tactic| try simp only [L2.start, List.map_cons, List.map_nil, List.length_cons, List.length_nil, List.replicate, Nat.reduceAdd, Nat.reduceSub, List.cons_append, List.nil_append, List.append_nil, List.set_cons_succ, List.set_cons_zero,
      List.getElem?_cons_succ, List.getElem?_cons_zero, ap_K1, ap_K2, ap_seq, ap_next, ap_asg, ap_name, ap_ret, ap_retN, ap_drop, ap_ifS, ap_c, ap_var, ap_op, ap_un, ap_chain, ap_test, ap_B, ap_and, ap_or, ap_not, ap_yes, ap_andV, ap_orV, ap_notV, ap_if, ap_nil, ap_cons, ap_cb, ap_lst, ap_tup, ap_bm, ap_bm0, ap_m1, ap_call, ap_sl, ap_part, ap_nopart, ap_rI0, ap_rI, ap_rU, ap_eqI, ap_neI, ap_eqS, ap_neS, ap_eqB, ap_neB, ap_fld, ap_tup_, ap_gcons, ap_gnil, ap_gsub, ap_for, ap_lc, ap_rng1, ap_rng2, ap_list, ap_itup, ap_str, ap_enum, ap_zip, ap_inSg, ap_ninSg, ap_addS, ap_sfld, ap_meth, ap_prop, ap_make, ap_smeth, ap_never, ap_ost, ap_callS, ap_mko, ap_enumS, ap_zipS, ap_rng3, ap_listRg, ap_leS, lit_alpha,  ap_rg1, ap_cval, len_abcdef, exists_and_left, exists_and_right, exists_eq_left', and_assoc, exists_eq_left, exists_eq, exists_eq', Option.some.injEq, V.int.injEq, V.str.injEq, V.ref.injEq, V.bl.injEq, V.ty.injEq, List.cons.injEq, and_true, true_and, decide_eq_true_eq, Bool.not_eq_true', decide_eq_false_iff_not, Bool.false_eq_true, if_true, if_false, reduceCtorEq, false_and, and_false, or_false, false_or, or_true, true_or, not_true_eq_false, not_false_eq_true, Int.zero_add, lit_nil, lit_a, tx_len, one_tx, tx_app, tx_inj, exists_const, forall_const])
  | `(tactic| walk_at "om") => `(tactic| repeat (refine ⟨by first | omega | exact szI, ?_⟩))

theorem stepBefore_len (b st : List Int) : (stepBefore b st).length = b.length := sb_len b st b.length
theorem idB_len (n : Nat) : (idB n).length = n := mapr_len
def validS (P : Nat) (S : List Int) : Prop := ∀ i, i < S.length → 0 ≤ S.getD i 0 ∧ S.getD i 0 < P ∧ (i = 0 ∨ S.getD (i - 1) 0 < S.getD i 0)
def sp_check_stands (K : Frag) : Sp := fun vs H Q _ => ∃ (P : Nat) (s : Addr) (S : List Int), vs = [.int P, .ref s] ∧ SqL K H s (S.map V.int) ∧ S ≠ [] ∧ S.length ≤ 100 ∧ validS P S ∧ Q .non H
theorem sc_check_stands : FnScope ["places", "stands", "index"] ["places", "stands"] (defScope s_check_stands) := ⟨rfl, rfl, rfl, by decide +kernel, rfl, by decide +kernel, by decide +kernel⟩
theorem b_check_stands {K : Frag} {mg : Str → Option Value} (c : Wd K mg) : Binds K (fdOf K (gA K "check_stands")) ["places", "stands"] [] := c.f_check_stands.binds (fun _ _ _ _ _ _ us hl => match us, hl with | [_, _], _ => rfl)
theorem ok_check_stands {P : Program} {w : World} {K : Frag} {mg : Str → Option Value} {base : Heap} (c : Wd K mg) : FnOk P w K mg base (L2.CX P w) 1 (gA K "check_stands") (fdOf K (gA K "check_stands")) ["places", "stands"] (sp_check_stands K) := by
  refine c.f_check_stands.okX sc_check_stands (fun vs H Q E h => ?_) (fun cdv A outer s H vs Q E hr h => ⟨_, PSs.nox (pss_cons (ps_if (pt_cmpR op_eq (pe_callB call_lenV (by rfl) c.z_len (by decide +kernel) (pa_cons (pv 1) pa_nil)) pe_int (nomark _)) (pss_one ps_never) pss_nil)
      (pss_one (ps_for PassesOwn.never rfl (pi_range1 rfl c.z_range (pa_cons (pe_callB call_lenV (by rfl) c.z_len (by decide +kernel) (pa_cons (pv 1) pa_nil)) pa_nil)) (pg_name (i := 2) sc_check_stands.nd rfl (Or.inl rfl)) (pss_cons (ps_if (pt_not (pt_chain op_le op_lt pe_int (pe_ix ix_list (pv 1) (pv 2) (fun _ _ => rfl)) (pv 0))) (pss_one ps_never) pss_nil)
      (pss_one (ps_if (PW.pt (pw_and (pt_cmpR op_gt (pv 2) pe_int (nomark _)) (pw_and1 (pt_cmpR op_le (pe_ix ix_list (pv 1) (pv 2) (fun _ _ => rfl)) (pe_ix ix_list (pv 1) (pe_op op_sub (pv 2) pe_int) (fun _ _ => rfl)) (nomark _))))) (pss_one ps_never) pss_nil)))))), ?_⟩)
  · obtain ⟨P', s', S, rfl, hS, hne, hz, hv, hQ⟩ := h
    rfl
  obtain ⟨P', s', S, rfl, hS, hne, hz, hv, hQ⟩ := h
  have hpos : 0 < S.length := List.length_pos_iff.mpr hne
  walk_at "wp"
  refine len_l hS (by rw [List.length_map]) ?_
  walk_at "wp"
  rw [if_neg (by omega)]
  refine len_l hS (by rw [List.length_map]) ?_
  walk_at "wp"
  walk_at "om"
  refine lp_rng (fun i σ' H' => ∃ x, σ' = [some (.int P'), some (.ref s'), x] ∧ H' = H) ⟨_, rfl, rfl⟩ ?_ ?_
  · rintro i σ' H' hi ⟨x, rfl, rfl⟩
    obtain ⟨h1, h2, h3⟩ := hv i (by omega)
    walk_at "wp"
    refine ixL_i i hS rfl (by omega) ?_
    walk_at "wp"
    rw [if_pos h1]
    walk_at "wp"
    rw [if_neg (by omega)]
    split <;> rename_i hi0
    · refine ixL_i i hS rfl (by omega) ?_
      refine ixL_i (i - 1) hS (by omega) (by omega) ?_
      walk_at "wp"
      rw [if_neg (by omega)]
      simp
    · simp
  · rintro σ' H' ⟨x, rfl, rfl⟩
    walk_at "wp"
    exact hQ
def entryB (n : Nat) (S : List Int) : List Int := stepBefore (idB n) S
def leB (b : List Int) : Prop := ∀ i, i < b.length → b.getD i 0 ≤ (i : Int)
def sp_Coat_entry (K : Frag) : Sp := fun vs H Q _ => ∃ (n : Nat) (s : Addr) (S : List Int), vs = [.int n, .ref s] ∧ SqL K H s (S.map V.int) ∧ n ≤ 5 ∧ S.length ≤ 100 ∧ validS n S ∧ okT (textOfBefore (entryB n S)) = true ∧ leB (entryB n S) ∧ ∀ p H', H p = none → Ex H H' → CoatAt K H' p (textOfBefore (entryB n S)) → Q (.ref p) H'
theorem sc_Coat_entry : FnScope ["places", "stands"] ["places", "stands"] (defScope s_Coat_entry) := ⟨rfl, rfl, rfl, by decide +kernel, rfl, by decide +kernel, by decide +kernel⟩
theorem b_Coat_entry {K : Frag} {mg : Str → Option Value} (c : Wd K mg) : Binds K (fdOf K (sA K "Coat" "entry")) ["places", "stands"] [] := c.f_Coat_entry.binds (fun _ _ _ _ _ _ us hl => match us, hl with | [_, _], _ => rfl)
theorem ok_Coat_entry {P : Program} {w : World} {K : Frag} {mg : Str → Option Value} {base : Heap} (c : Wd K mg) : FnOk P w K mg base (L2.CX P w) 4 (sA K "Coat" "entry") (fdOf K (sA K "Coat" "entry")) ["places", "stands"] (sp_Coat_entry K) := by
  refine c.f_Coat_entry.okX sc_Coat_entry (fun vs H Q E h => ?_) (fun cdv A outer s H vs Q E hr h => ⟨_, PSs.nox (pss_cons (ps_expr (pe_call (ok_check_window_size c) (hr.mono (by decide)) rfl c.g_check_window_size c.f_check_window_size.kp (b_check_window_size c) .nil passL (pa_cons (pv 0) pa_nil)))
      (pss_cons (ps_if (pt_cmpR op_gt (pe_callB call_lenV (by rfl) c.z_len (by decide +kernel) (pa_cons (pv 1) pa_nil)) pe_int (nomark _)) (pss_one (ps_expr (pe_call (ok_check_stands c) (hr.mono (by decide)) rfl c.g_check_stands c.f_check_stands.kp (b_check_stands c) .nil passL (pa_cons (pv 0) (pa_cons (pv 1) pa_nil))))) pss_nil)
      (pss_one (ps_ret (pe_make c.mk_Coat (ok_Coat_init c) (hr.mono (by decide)) rfl c.g_Coat (b_Coat_init c) .nil passL (pa_cons (pe_call (ok_text_of_before c) (hr.mono (by decide)) rfl c.g_text_of_before c.f_text_of_before.kp (b_text_of_before c) .nil passL (pa_cons (pe_call (ok_step_before c) (hr.mono (by decide)) rfl c.g_step_before c.f_step_before.kp (b_step_before c) .nil passL (pa_cons (pe_listRg rfl (by rfl) c.z_list (prg_1 (by rfl) c.z_range (pv 0))) (pa_cons (pv 1) pa_nil))) pa_nil)) pa_nil)))))), ?_⟩)
  · obtain ⟨n, s', S, rfl, hS, hn, hz, hv, hok, hle, hQ⟩ := h
    rfl
  obtain ⟨n, s', S, rfl, hS, hn, hz, hv, hok, hle, hQ⟩ := h
  walk_at "wp"
  refine ⟨n, rfl, hn, ?_⟩
  walk_at "wp"
  refine len_l hS (by rw [List.length_map]) ?_
  walk_at "wp"
  have fin : ∀ q, H q = none → sp_step_before K [.ref q, .ref s'] (upd H q (.lst (rgV 0 (n : Int)))) (fun v H' => sp_text_of_before K ([v] ++ []) H' (fun v2 H2 => rMake (gA K "Coat") (fun x H3 => sp_Coat_init K (.ref x :: ([v2] ++ [])) H3 (fun u H4 => u = .non ∧ Q (.ref x) H4) E0) H2) E0) E0 := by
    intro q hq
    rw [rgV_id]
    have hxq := Evl.Ex.new (o := .lst ((idB n).map V.int)) hq
    refine ⟨q, s', idB n, S, rfl, Evl.sq_of upd_same, Evl.ex_l hxq hS, by rw [idB_len]; omega, fun p H1 hp hx1 hp1 => ?_⟩
    refine ⟨p, _, rfl, Evl.sq_of hp1, by rw [stepBefore_len, idB_len]; exact hn, hle, ?_⟩
    exact mk_coat hok fun p' H2 hp' hx2 h2 => hQ p' H2 (Evl.fresh_back (hxq.trans hx1) hp') ((hxq.trans hx1).trans hx2) h2
  split <;> rename_i h0
  · refine ⟨n, s', S, rfl, hS, by intro h; subst h; simp at h0, hz, hv, ?_⟩
    walk_at "wp"
    exact ⟨.of_le (by omega) (by omega) (by omega) (by omega), fun q hq => fin q hq⟩
  · exact ⟨.of_le (by omega) (by omega) (by omega) (by omega), fun q hq => fin q hq⟩
def standsIn (ws : List (List Nat)) (ch : Nat) (b : Int) (n : Nat) : List Int := ((List.range n).filter fun i : Nat => decide ((b + i) % (ws.length : Int) ∈ standsOf ws ch)).map fun i : Nat => (i : Int)
def sp_stands_in (K : Frag) : Sp := fun vs H Q _ => ∃ (a : Addr) (ws : List (List Nat)) (ch n : Nat) (b : Int), vs = [.ref a, .str (tx [ch]), .int b, .int (b + n)] ∧ CalAt K H a ws ∧ 0 < ws.length ∧ ws.length ≤ 10 ∧ standsOf ws ch ≠ [] ∧ n ≤ 10 ∧ -1000 ≤ b ∧ b ≤ 1000 ∧
  ∀ p H', H p = none → Ex H H' → H' p = some (.lst ((standsIn ws ch b n).map V.int)) → Q (.ref p) H'
theorem sc_stands_in : FnScope ["calendar", "sign", "begin", "end", "stands", "place"] ["calendar", "sign", "begin", "end"] (defScope s_stands_in) := ⟨rfl, rfl, rfl, by decide +kernel, rfl, by decide +kernel, by decide +kernel⟩
theorem b_stands_in {K : Frag} {mg : Str → Option Value} (c : Wd K mg) : Binds K (fdOf K (gA K "stands_in")) ["calendar", "sign", "begin", "end"] [] := c.f_stands_in.binds (fun _ _ _ _ _ _ us hl => match us, hl with | [_, _, _, _], _ => rfl)
theorem ok_stands_in {P : Program} {w : World} {K : Frag} {mg : Str → Option Value} {base : Heap} (c : Wd K mg) : FnOk P w K mg base (L2.CX P w) 3 (gA K "stands_in") (fdOf K (gA K "stands_in")) ["calendar", "sign", "begin", "end"] (sp_stands_in K) := by
  refine c.f_stands_in.okX sc_stands_in (fun vs H Q E h => ?_) (fun cdv A outer s H vs Q E hr h => ⟨_, PSs.nox (pss_cons (ps_set (i := 4) sc_stands_in.nd rfl (Or.inr rfl) (pe_meth (pv 0) c.c_Calendar c.m_Calendar_stands (ok_Calendar_stands c) (hr.mono (by decide)) (b_Calendar_stands c) .nil passL (pa_cons (pv 1) pa_nil)))
      (pss_one (ps_ret (pe_lc (own := [("place", 5)]) (g := gName 5) rfl sc_stands_in.nd (pi_range2 rfl c.z_range (pa_cons (pv 2) (pa_cons (pv 3) pa_nil))) (blkOk_by (own := [("place", 5)]) (N := ["calendar", "sign", "begin", "end", "stands", "place"]) (sc := defScope s_stands_in) (by decide +kernel)) (fun _ _ _ _ _ => (pg_name (i := 5) sc_stands_in.nd rfl (Or.inl rfl))) (fun _ _ _ _ _ => (pts_one (pt_cmpR (r := rIn K false) op_in_seq (pe_op op_mod (pv 5) (pe_prop (pv 0) c.c_Calendar c.p_Calendar_places (ok_Calendar_places c) (hr.mono (by decide)) (b_Calendar_places c) .nil passL rfl)) (pv 4) rfl))) (fun _ _ _ _ _ => (pe_op op_sub (pv 5) (pv 2))))))), ?_⟩)
  · obtain ⟨a, ws, ch, n, b, rfl, h, h0, hz, hne, hn, hb1, hb2, hQ⟩ := h
    rfl
  obtain ⟨a, ws, ch, n, b, rfl, h, h0, hz, hne, hn, hb1, hb2, hQ⟩ := h
  walk_at "wp"
  refine h.inst ⟨a, ws, ch, rfl, h, hz, hne, fun q H1 hq hx1 hq1 => ?_⟩
  walk_at "wp"
  walk_at "om"
  intro D hD
  have hnn : (b + (n : Int) - b).toNat = n := by omega
  rw [hnn]
  refine lc_rngF (fun i : Nat => decide ((b + i) % (ws.length : Int) ∈ standsOf ws ch)) (fun i => .int (i : Int)) (by omega) hD (fun _ => rfl) ?_ ?_ ?_
  · intro i H3 hi hx3 Q' q'
    simp only [wipe]
    walk_at "wp"
    refine (h.mono (hx1.trans hx3)).prop ⟨a, ws, rfl, h.mono (hx1.trans hx3), ?_⟩
    walk_at "wp"
    refine ⟨by omega, in_int (Evl.sq_of (hx3 _ _ hq1)) ?_⟩
    walk_at "wp"
    exact q' _ (Evl.Ex.refl _)
  · intro i H3 hi _ hx3 Q' q'
    simp only [wipe]
    walk_at "wp"
    rw [show b + (i : Int) - b = (i : Int) by omega]
    exact q' _ (Evl.Ex.refl _)
  · intro H3 hx3 hD3
    refine hQ D H3 (Evl.fresh_back hx1 hD) (hx1.trans hx3) ?_
    rw [hD3]
    simp [Evl.given, standsIn]
theorem standsIn_len (ws : List (List Nat)) (ch : Nat) (b : Int) (n : Nat) : (standsIn ws ch b n).length ≤ n := by
  unfold standsIn
  rw [List.length_map]
  have := List.length_filter_le (fun i : Nat => decide ((b + i) % (ws.length : Int) ∈ standsOf ws ch)) (List.range n)
  rw [List.length_range] at this
  exact this
def signT (ws : List (List Nat)) (ch : Nat) (b : Int) (n : Nat) : List Nat := textOfBefore (entryB n (standsIn ws ch b n))
def sp_sign_coat (K : Frag) : Sp := fun vs H Q _ => ∃ (a : Addr) (ws : List (List Nat)) (ch n : Nat) (b : Int), vs = [.ref a, .str (tx [ch]), .int b, .int (b + n)] ∧ CalAt K H a ws ∧ 0 < ws.length ∧ ws.length ≤ 10 ∧ standsOf ws ch ≠ [] ∧ n ≤ 5 ∧ -1000 ≤ b ∧ b ≤ 1000 ∧
  validS n (standsIn ws ch b n) ∧ okT (signT ws ch b n) = true ∧ leB (entryB n (standsIn ws ch b n)) ∧ ∀ p H', H p = none → Ex H H' → CoatAt K H' p (signT ws ch b n) → Q (.ref p) H'
theorem sc_sign_coat : FnScope ["calendar", "sign", "begin", "end"] ["calendar", "sign", "begin", "end"] (defScope s_sign_coat) := ⟨rfl, rfl, rfl, by decide +kernel, rfl, by decide +kernel, by decide +kernel⟩
theorem b_sign_coat {K : Frag} {mg : Str → Option Value} (c : Wd K mg) : Binds K (fdOf K (gA K "sign_coat")) ["calendar", "sign", "begin", "end"] [] := c.f_sign_coat.binds (fun _ _ _ _ _ _ us hl => match us, hl with | [_, _, _, _], _ => rfl)
theorem ok_sign_coat {P : Program} {w : World} {K : Frag} {mg : Str → Option Value} {base : Heap} (c : Wd K mg) : FnOk P w K mg base (L2.CX P w) 5 (gA K "sign_coat") (fdOf K (gA K "sign_coat")) ["calendar", "sign", "begin", "end"] (sp_sign_coat K) := by
  refine c.f_sign_coat.okX sc_sign_coat (fun vs H Q E h => ?_) (fun cdv A outer s H vs Q E hr h => ⟨_, PSs.nox (pss_cons (ps_expr (pe_call (ok_check_window c) (hr.mono (by decide)) rfl c.g_check_window c.f_check_window.kp (b_check_window c) .nil passL (pa_cons (pv 2) (pa_cons (pv 3) pa_nil))))
      (pss_one (ps_ret (pe_smeth (pe_cls rfl c.g_Coat) c.s_Coat_entry (ok_Coat_entry c) (hr.mono (by decide)) (b_Coat_entry c) passL (pa_cons (pe_op op_sub (pv 3) (pv 2)) (pa_cons (pe_call (ok_stands_in c) (hr.mono (by decide)) rfl c.g_stands_in c.f_stands_in.kp (b_stands_in c) .nil passL (pa_cons (pv 0) (pa_cons (pv 1) (pa_cons (pv 2) (pa_cons (pv 3) pa_nil))))) pa_nil)))))), ?_⟩)
  · obtain ⟨a, ws, ch, n, b, rfl, h, h0, hz, hne, hn, hb1, hb2, hv, hok, hle, hQ⟩ := h
    rfl
  obtain ⟨a, ws, ch, n, b, rfl, h, h0, hz, hne, hn, hb1, hb2, hv, hok, hle, hQ⟩ := h
  walk_at "wp"
  refine ⟨b, b + n, rfl, fun _ _ => ?_, fun h => absurd h (by omega), fun _ h => absurd h (by omega)⟩
  walk_at "wp"
  refine ⟨a, ws, ch, n, b, rfl, h, h0, hz, hne, by omega, hb1, hb2, fun q H1 hq hx1 hq1 => ?_⟩
  walk_at "wp"
  have hl := standsIn_len ws ch b n
  refine ⟨n, q, standsIn ws ch b n, by rw [show b + (n : Int) - b = (n : Int) by omega], Evl.sq_of hq1, hn, by omega, hv, hok, hle, fun p H2 hp hx2 h2 => ?_⟩
  exact hQ p H2 (Evl.fresh_back hx1 hp) (hx1.trans hx2) h2
def pageB (ws : List (List Nat)) (b : Int) (n : Nat) (t : List Nat) (i : Nat) : List Int := rf i (fun bf j => stepBefore bf (standsIn ws (t.getD j 0) b n)) (idB n)
theorem pageB_len (ws : List (List Nat)) (b : Int) (n : Nat) (t : List Nat) (i : Nat) : (pageB ws b n t i).length = n := by
  unfold pageB
  induction i with
  | zero => exact idB_len n
  | succ k ih => rw [rf_succ, stepBefore_len]; exact ih
def pageT (ws : List (List Nat)) (b : Int) (n : Nat) (t : List Nat) : List Nat := textOfBefore (pageB ws b n t t.length)
def sp_coat_of_entries (K : Frag) : Sp := fun vs H Q _ => ∃ (a : Addr) (ws : List (List Nat)) (t : List Nat) (n : Nat) (b : Int), vs = [.ref a, .str (tx t), .int b, .int (b + n)] ∧ CalAt K H a ws ∧ 0 < ws.length ∧ ws.length ≤ 10 ∧ (∀ ch ∈ t, standsOf ws ch ≠ []) ∧ n ≤ 5 ∧ -1000 ≤ b ∧ b ≤ 1000 ∧
  okT (pageT ws b n t) = true ∧ leB (pageB ws b n t t.length) ∧ ∀ p H', H p = none → Ex H H' → CoatAt K H' p (pageT ws b n t) → Q (.ref p) H'
theorem sc_coat_of_entries : FnScope ["calendar", "page", "begin", "end", "before", "sign"] ["calendar", "page", "begin", "end"] (defScope s_coat_of_entries) := ⟨rfl, rfl, rfl, by decide +kernel, rfl, by decide +kernel, by decide +kernel⟩
theorem b_coat_of_entries {K : Frag} {mg : Str → Option Value} (c : Wd K mg) : Binds K (fdOf K (gA K "coat_of_entries")) ["calendar", "page", "begin", "end"] [] := c.f_coat_of_entries.binds (fun _ _ _ _ _ _ us hl => match us, hl with | [_, _, _, _], _ => rfl)
theorem ok_coat_of_entries {P : Program} {w : World} {K : Frag} {mg : Str → Option Value} {base : Heap} (c : Wd K mg) : FnOk P w K mg base (L2.CX P w) 4 (gA K "coat_of_entries") (fdOf K (gA K "coat_of_entries")) ["calendar", "page", "begin", "end"] (sp_coat_of_entries K) := by
  refine c.f_coat_of_entries.okX sc_coat_of_entries (fun vs H Q E h => ?_) (fun cdv A outer s H vs Q E hr h => ⟨_, PSs.nox (pss_cons (ps_set (i := 4) sc_coat_of_entries.nd rfl (Or.inl rfl) (pe_listRg rfl (by rfl) c.z_list (prg_1 (by rfl) c.z_range (pe_op op_sub (pv 3) (pv 2)))))
      (pss_cons (ps_for PassesOwn.never rfl (pi_str (pv 1)) (pg_name (i := 5) sc_coat_of_entries.nd rfl (Or.inl rfl)) (pss_one (ps_set (i := 4) sc_coat_of_entries.nd rfl (Or.inl rfl) (pe_call (ok_step_before c) (hr.mono (by decide)) rfl c.g_step_before c.f_step_before.kp (b_step_before c) .nil passL (pa_cons (pv 4) (pa_cons (pe_call (ok_stands_in c) (hr.mono (by decide)) rfl c.g_stands_in c.f_stands_in.kp (b_stands_in c) .nil passL (pa_cons (pv 0) (pa_cons (pv 5) (pa_cons (pv 2) (pa_cons (pv 3) pa_nil))))) pa_nil))))))
      (pss_one (ps_ret (pe_make c.mk_Coat (ok_Coat_init c) (hr.mono (by decide)) rfl c.g_Coat (b_Coat_init c) .nil passL (pa_cons (pe_call (ok_text_of_before c) (hr.mono (by decide)) rfl c.g_text_of_before c.f_text_of_before.kp (b_text_of_before c) .nil passL (pa_cons (pv 4) pa_nil)) pa_nil)))))), ?_⟩)
  · obtain ⟨a, ws, t, n, b, rfl, h, h0, hz, hne, hn, hb1, hb2, hok, hle, hQ⟩ := h
    rfl
  obtain ⟨a, ws, t, n, b, rfl, h, h0, hz, hne, hn, hb1, hb2, hok, hle, hQ⟩ := h
  walk_at "wp"
  rw [show b + (n : Int) - b = (n : Int) by omega]
  refine ⟨.of_le (by omega) (by omega) (by omega) (by omega), fun q hq => ?_⟩
  rw [rgV_id]
  refine lp_str (fun i σ' H' => ∃ x y, σ' = [some (.ref a), some (.str (tx t)), some (.int b), some (.int (b + n)), some (.ref x), y] ∧ Ex H H' ∧ H' x = some (.lst ((pageB ws b n t i).map V.int))) ⟨_, _, rfl, Evl.Ex.new hq, upd_same⟩ ?_ ?_
  · rintro i σ' H' hi ⟨x, y, rfl, hx, hx'⟩
    walk_at "wp"
    have hmem : t.getD i 0 ∈ t := by rw [List.getD_eq_getElem?_getD, List.getElem?_eq_getElem hi]; exact List.getElem_mem hi
    refine ⟨a, ws, t.getD i 0, n, b, rfl, h.mono hx, h0, hz, hne _ hmem, by omega, hb1, hb2, fun q2 H1 hq2 hx1 hq21 => ?_⟩
    refine ⟨x, q2, pageB ws b n t i, standsIn ws (t.getD i 0) b n, rfl, Evl.sq_of (hx1 _ _ hx'), Evl.sq_of hq21, by rw [pageB_len]; omega, fun p H2 hp hx2 hp2 => ?_⟩
    walk_at "wp"
    refine ⟨(hx.trans hx1).trans hx2, ?_⟩
    rw [hp2]
    unfold pageB
    rw [rf_succ]
  · rintro σ' H' ⟨x, y, rfl, hx, hx'⟩
    walk_at "wp"
    refine ⟨x, _, rfl, Evl.sq_of hx', by rw [pageB_len]; exact hn, hle, ?_⟩
    exact mk_coat hok fun p' H2 hp' hx2 h2 => hQ p' H2 (Evl.fresh_back hx hp') (hx.trans hx2) h2
end DR

set_option Elab.async false
set_option linter.all false
set_option maxRecDepth 100000
set_option maxHeartbeats 4000000
/-! lists of things, trees of sayings -/
namespace DR
open PySem PySem.Spec PyProof.Rows L2
open PySem.W (Frag)
/-- at p a list of references, each to a thing told by R -/
def RA {α : Type} (R : Hp → α → Addr → Prop) (H : Hp) (p : Addr) (xs : List α) : Prop := ∃ ps : List (α × Addr), ps.map (·.1) = xs ∧ H p = some (.lst (ps.map fun q => V.ref q.2)) ∧ ∀ q ∈ ps, R H q.1 q.2
/-- R stays while the heap grows -/
def Mono {α : Type} (R : Hp → α → Addr → Prop) : Prop := ∀ H H' x a, Ex H H' → R H x a → R H' x a
def MonoD {α : Type} (R : Hp → α → Addr → Prop) : Prop := ∀ H H' x a, ExD H H' → R H x a → R H' x a
theorem MonoD.to {α : Type} {R : Hp → α → Addr → Prop} (m : MonoD R) : Mono R := fun H H' x a e h => m H H' x a (.of e) h
theorem isSt_refs2 {α : Type} {ps : List (α × Addr)} : ¬ isSt (.lst (ps.map fun q => V.ref q.2)) := by
  rintro ⟨n, i, c, h⟩
  simp only [HO.lst.injEq] at h
  match ps, h with
  | a :: r, h => simp at h
section
variable {α : Type} {R : Hp → α → Addr → Prop} {H H' : Hp} {p q : Addr} {xs : List α} {x : α} {K : Frag} {Q : VK}
theorem RA.monoD (m : MonoD R) (e : ExD H H') (h : RA R H p xs) : RA R H' p xs := by
  obtain ⟨ps, h1, h2, h3⟩ := h
  exact ⟨ps, h1, e _ _ h2 isSt_refs2, fun q hq => m _ _ _ _ e (h3 q hq)⟩
theorem RA.mono (m : Mono R) (e : Ex H H') (h : RA R H p xs) : RA R H' p xs := by
  obtain ⟨ps, h1, h2, h3⟩ := h
  exact ⟨ps, h1, e _ _ h2, fun q hq => m _ _ _ _ e (h3 q hq)⟩
/-- what R tells does not hang on a list that is being filled -/
def Off (R : Hp → α → Addr → Prop) : Prop := ∀ (H : Hp) (p : Addr) (o : HO) (x : α) (a : Addr) (ps : List (α × Addr)), H p = some (.lst (ps.map fun q => V.ref q.2)) → R H x a → R (upd H p o) x a
theorem RA.nil : RA R (upd H p (.lst [])) p [] := ⟨[], rfl, upd_same, fun q hq => nomatch hq⟩
theorem RA.push (f : Off R) (h : RA R H p xs) (hx : R H x q) : ∃ vs, H p = some (.lst vs) ∧ vs.length = xs.length ∧ RA R (upd H p (.lst (vs ++ [.ref q]))) p (xs ++ [x]) := by
  obtain ⟨ps, h1, h2, h3⟩ := h
  refine ⟨_, h2, by rw [List.length_map, ← h1, List.length_map], ps ++ [(x, q)], by simp [h1], by rw [upd_same]; simp, fun r hr => ?_⟩
  rcases List.mem_append.mp hr with hr | hr
  · exact f H p _ _ _ ps h2 (h3 r hr)
  · rw [List.mem_singleton] at hr
    subst hr
    exact f H p _ _ _ ps h2 hx
theorem RA.pop (f : Off R) (h : RA R H p (xs ++ [x])) : ∃ vs a, H p = some (.lst (vs ++ [.ref a])) ∧ R (upd H p (.lst vs)) x a ∧ RA R (upd H p (.lst vs)) p xs := by
  obtain ⟨ps, h1, h2, h3⟩ := h
  obtain ⟨qs, l2, rfl, h4, h5⟩ := List.map_eq_append_iff.mp h1
  obtain ⟨x', a, rfl⟩ : ∃ x' a, l2 = [(x', a)] := by
    match l2, h5 with
    | [], h5 => simp at h5
    | r :: r2 :: l3, h5 => simp at h5
    | [(x', a)], _ => exact ⟨x', a, rfl⟩
  have h5 : x' = x := by simpa using h5
  subst h5
  refine ⟨_, a, by rw [h2, List.map_append]; rfl, f H p _ _ _ _ h2 (h3 _ (List.mem_append_right _ List.mem_cons_self)), qs, h4, upd_same, fun r hr => f H p _ _ _ _ h2 (h3 r (by simp [hr]))⟩
theorem RA.seq (h : RA R H p xs) : ∃ vs, SqL K H p vs ∧ H p = some (.lst vs) ∧ vs.length = xs.length ∧ ∀ (i : Nat) v, vs[i]? = some v → ∃ x a, xs[i]? = some x ∧ v = .ref a ∧ R H x a := by
  obtain ⟨ps, h1, h2, h3⟩ := h
  refine ⟨_, Evl.sq_of h2, h2, by rw [List.length_map, ← h1, List.length_map], fun i v hv => ?_⟩
  rw [List.getElem?_map] at hv
  cases e : ps[i]? with
  | none => rw [e] at hv; cases hv
  | some r =>
    rw [e] at hv
    simp only [Option.map_some, Option.some.injEq] at hv
    refine ⟨r.1, r.2, by rw [← h1, List.getElem?_map, e]; rfl, hv.symm, h3 r (List.mem_of_getElem? e)⟩
theorem RA.ix {i : Int} (j : Nat) (h : RA R H p xs) (e : i = (j : Int)) (hj : xs[j]? = some x) (q : ∀ a, R H x a → Q (.ref a) H) : rIxL K (.ref p) (.int i) H Q := by
  obtain ⟨vs, h1, _, h2, h3⟩ := h.seq (K := K)
  have hlt : j < vs.length := by rw [h2]; exact (List.getElem?_eq_some_iff.mp hj).1
  obtain ⟨x', a, e1, e2, e3⟩ := h3 j _ (List.getElem?_eq_getElem hlt)
  rw [hj] at e1
  cases e1
  exact ixL_v j h1 e (by rw [List.getElem?_eq_getElem hlt, e2]) (q a e3)
theorem RA.len {n : Int} (h : RA R H p xs) (e : n = (xs.length : Int)) (q : Q (.int n) H) : rLenV K [.ref p] H Q := by
  obtain ⟨vs, h1, _, h2, h3⟩ := h.seq (K := K)
  exact len_l h1 (by rw [h2]; exact e) q
end
/-- a comprehension that makes a thing for each turn -/
theorem lc_RA {α : Type} {R : Hp → α → Addr → Prop} {σ : L2.St} {H : Hp} {te : TE} {tt : TT} {g : TG} {J : It} {n : Nat} {G : Hp → Prop} {Y : Nat → Hp → V → Hp → Prop} {Q : VK} {vs : List Nat} {Dl : Addr} (w : Walk J n G Y) (m : Mono R) (fo : Off R) (f : Nat → Bool) (x : Nat → α) (hG : ∀ H', Ex H H' → G H') (hn : n ≤ 50000) (hD : H Dl = none)
    (hs : ∀ i v H1 H', i < n → Ex H H1 → Y i H1 v H' → ∀ Q : VK, ∀ QN : Hp → Prop, (∀ a H3, Ex H1 H3 → R H3 (x i) a → f i = true → Q (.ref a) H3) → (∀ H3, Ex H1 H3 → f i = false → QN H3) →
      g v (wipe σ vs) H' fun σ2 H2 => wipe σ2 vs = wipe σ vs ∧ tt σ2 H2 fun b H3 => if b = true then te σ2 H3 Q else QN H3)
    (k : ∀ H', Ex H H' → RA R H' Dl (((List.range n).filter f).map x) → Q (.ref Dl) H') : LoopC J g tt te vs Dl σ H Q := by
  refine lc_ok w (fun i H' => Ex H H' ∧ RA R H' Dl (((List.range i).filter f).map x)) ⟨Evl.Ex.new hD, RA.nil⟩ (fun i H' _ h => hG H' h.1) ?_ (fun H' h => k H' h.1 h.2)
  rintro i v H1 H' hi ⟨h1, h2⟩ y
  have hlen : (((List.range i).filter f).map x).length ≤ i := by
    rw [List.length_map]
    have := List.length_filter_le f (List.range i)
    rwa [List.length_range] at this
  refine hs i v H1 H' hi h1 y (fun yv H4 => ∃ acc, H4 Dl = some (.lst acc) ∧ acc.length < sizeLine ∧ Ex H (upd H4 Dl (.lst (acc ++ [yv]))) ∧ RA R (upd H4 Dl (.lst (acc ++ [yv]))) Dl (((List.range (i + 1)).filter f).map x)) _ (fun a H3 e3 hr hf => ?_) (fun H3 e3 hf => ⟨h1.trans e3, ?_⟩)
  · obtain ⟨vs', e1, e2, e4⟩ := (h2.mono m e3).push fo hr
    refine ⟨vs', e1, szL (by omega), (h1.trans e3).mut hD, ?_⟩
    rw [List.range_succ, List.filter_append, List.map_append, List.filter_cons, if_pos hf]
    exact e4
  · rw [List.range_succ, List.filter_append, List.map_append, List.filter_cons, if_neg (by rw [hf]; exact Bool.false_ne_true)]
    simpa using h2.mono m e3
/-! ### sayings -/
inductive Tr where
  | pl (b e n : Int)
  | no (t : Tr)
  | an (t u : Tr)
  | ro (t u : Tr)
def TrAt (H : Hp) : Tr → Addr → Prop
  | .pl b e n, a => H a = some (.tup [.str "plain", .int b, .int e, .int n])
  | .no t, a => ∃ x, H a = some (.tup [.str "not", .ref x]) ∧ TrAt H t x
  | .an t u, a => ∃ x y, H a = some (.tup [.str "and", .ref x, .ref y]) ∧ TrAt H t x ∧ TrAt H u y
  | .ro t u, a => ∃ x y, H a = some (.tup [.str "or", .ref x, .ref y]) ∧ TrAt H t x ∧ TrAt H u y
theorem TrAt.tups {H H' : Hp} (e : ∀ a xs, H a = some (.tup xs) → H' a = some (.tup xs)) : ∀ {t : Tr} {a : Addr}, TrAt H t a → TrAt H' t a
  | .pl b e' n, a, h => e _ _ h
  | .no t, a, ⟨x, h1, h2⟩ => ⟨x, e _ _ h1, TrAt.tups e h2⟩
  | .an t u, a, ⟨x, y, h1, h2, h3⟩ => ⟨x, y, e _ _ h1, TrAt.tups e h2, TrAt.tups e h3⟩
  | .ro t u, a, ⟨x, y, h1, h2, h3⟩ => ⟨x, y, e _ _ h1, TrAt.tups e h2, TrAt.tups e h3⟩
theorem TrAt.monoD : MonoD TrAt := fun H H' t a e h => TrAt.tups (fun a xs h => e a _ h isSt_tup) h
theorem TrAt.mono : Mono TrAt := TrAt.monoD.to
theorem TrAt.off : Off TrAt := fun H p o t a ps hp h => TrAt.tups (fun b xs hb => by
  rw [upd_ne]
  · exact hb
  · rintro rfl
    rw [hp] at hb
    cases hb) h
def post : Tr → List Tr
  | .pl b e n => [.pl b e n]
  | .no t => post t ++ [.no t]
  | .an t u => post t ++ post u ++ [.an t u]
  | .ro t u => post t ++ post u ++ [.ro t u]
def Tr.size : Tr → Nat
  | .pl _ _ _ => 1
  | .no t => t.size + 1
  | .an t u => t.size + u.size + 1
  | .ro t u => t.size + u.size + 1
theorem post_len : ∀ t : Tr, (post t).length = t.size
  | .pl _ _ _ => rfl
  | .no t => by simp [post, Tr.size, post_len t]
  | .an t u => by simp [post, Tr.size, post_len t, post_len u]; omega
  | .ro t u => by simp [post, Tr.size, post_len t, post_len u]; omega
def SayAt (K : Frag) (H : Hp) (a : Addr) (t : Tr) : Prop := ∃ dx x, H a = some (.ins (gA K "Saying") dx [("_tree", .ref x)]) ∧ TrAt H t x
theorem SayAt.monoD {K : Frag} {H H' : Hp} {a : Addr} {t : Tr} (e : ExD H H') (h : SayAt K H a t) : SayAt K H' a t := by
  obtain ⟨dx, x, h1, h2⟩ := h
  exact ⟨dx, x, e _ _ h1 isSt_ins, TrAt.monoD _ _ _ _ e h2⟩
theorem SayAt.mono {K : Frag} {H H' : Hp} {a : Addr} {t : Tr} (e : Ex H H') (h : SayAt K H a t) : SayAt K H' a t := h.monoD (.of e)
/-! a machine over the parts -/
section
variable {β : Type}
def stp (P : Int → Int → Int → β) (N : β → β) (A O : β → β → β) (s : List β) : Tr → Option (List β)
  | .pl b e n => some (s ++ [P b e n])
  | .no _ => match s.reverse with
    | t :: r => some (r.reverse ++ [N t])
    | _ => none
  | .an _ _ => match s.reverse with
    | u :: t :: r => some (r.reverse ++ [A t u])
    | _ => none
  | .ro _ _ => match s.reverse with
    | u :: t :: r => some (r.reverse ++ [O t u])
    | _ => none
def fld (P : Int → Int → Int → β) (N : β → β) (A O : β → β → β) : Tr → β
  | .pl b e n => P b e n
  | .no t => N (fld P N A O t)
  | .an t u => A (fld P N A O t) (fld P N A O u)
  | .ro t u => O (fld P N A O t) (fld P N A O u)
def runM (f : List β → Tr → Option (List β)) : List Tr → List β → Option (List β)
  | [], s => some s
  | t :: r, s => (f s t).bind fun s' => runM f r s'
theorem runM_append (f : List β → Tr → Option (List β)) : ∀ (xs ys : List Tr) (s : List β), runM f (xs ++ ys) s = (runM f xs s).bind fun s' => runM f ys s'
  | [], ys, s => rfl
  | t :: r, ys, s => by
    show (f s t).bind _ = ((f s t).bind _).bind _
    cases h : f s t with
    | none => rfl
    | some s' => exact runM_append f r ys s'
theorem run_post (P : Int → Int → Int → β) (N : β → β) (A O : β → β → β) : ∀ (t : Tr) (s : List β), runM (stp P N A O) (post t) s = some (s ++ [fld P N A O t])
  | .pl b e n, s => rfl
  | .no t, s => by
    show runM _ (post t ++ [.no t]) s = _
    rw [runM_append, run_post P N A O t s]
    simp [runM, stp, fld]
  | .an t u, s => by
    show runM _ (post t ++ post u ++ [.an t u]) s = _
    rw [runM_append, runM_append, run_post P N A O t s]
    show ((runM _ (post u) _)).bind _ = _
    rw [run_post P N A O u _]
    simp [runM, stp, fld]
  | .ro t u, s => by
    show runM _ (post t ++ post u ++ [.ro t u]) s = _
    rw [runM_append, runM_append, run_post P N A O t s]
    show ((runM _ (post u) _)).bind _ = _
    rw [run_post P N A O u _]
    simp [runM, stp, fld]
/-- one turn of it -/
theorem run_turn (f : List β → Tr → Option (List β)) {ts : List Tr} {s0 r : List β} (h : runM f ts s0 = some r) {i : Nat} {x : Tr} (hx : ts[i]? = some x) : ∃ s s', runM f (ts.take i) s0 = some s ∧ f s x = some s' ∧ runM f (ts.take (i + 1)) s0 = some s' := by
  have hlt : i < ts.length := (List.getElem?_eq_some_iff.mp hx).1
  have e : ts = ts.take i ++ x :: ts.drop (i + 1) := by
    have h1 : ts[i] = x := by
      rw [List.getElem?_eq_getElem hlt] at hx
      exact Option.some.inj hx
    rw [← h1, ← List.drop_eq_getElem_cons hlt, List.take_append_drop]
  rw [e, runM_append] at h
  cases h1 : runM f (ts.take i) s0 with
  | none => rw [h1] at h; cases h
  | some s =>
    rw [h1] at h
    have h2 : (f s x).bind (fun s' => runM f (ts.drop (i + 1)) s') = some r := h
    cases h3 : f s x with
    | none => rw [h3] at h2; cases h2
    | some s' =>
      refine ⟨s, s', rfl, h3, ?_⟩
      rw [List.take_add_one, hx, runM_append, h1]
      show (f s x).bind _ = _
      rw [h3]
      rfl
end
def Tr.move (d : Int) (t : Tr) : Tr := fld (fun b e n => .pl (b + d) (e + d) n) .no .an .ro t
/-- is it true, where the plains are told by q -/
def Tr.ev (q : Int → Int → Int → Bool) (t : Tr) : Bool := fld q not (· && ·) (· || ·) t
def isPl : Tr → Bool
  | .pl _ _ _ => true
  | _ => false
def plPair : Tr → Int × Int
  | .pl b e _ => (b, e)
  | _ => (0, 0)
def prs (ts : List Tr) : List (Int × Int) := (ts.filter isPl).map plPair
theorem range_pick {α β : Type} (xs : List α) (d : α) (p : α → Bool) (g : α → β) : ((List.range xs.length).filter fun i => p (xs.getD i d)).map (fun i => g (xs.getD i d)) = (xs.filter p).map g := by
  have e : (List.range xs.length).map (fun i => xs.getD i d) = xs := by
    refine List.ext_getElem (by simp) fun i h1 h2 => ?_
    simp [List.getElem?_eq_getElem h2]
  conv => rhs; rw [← e]
  rw [List.filter_map, List.map_map]
  rfl
def PrAt (H : Hp) (x : Int × Int) (a : Addr) : Prop := H a = some (.tup [.int x.1, .int x.2])
theorem PrAt.monoD : MonoD PrAt := fun H H' x a e h => e _ _ h isSt_tup
theorem PrAt.off : Off PrAt := fun H p o x a ps hp h => by
  show upd H p o a = _
  rw [upd_ne]
  · exact h
  · rintro rfl
    have h : H a = _ := h
    rw [hp] at h
    cases h
theorem tg1 : (Str.ofString "not" = Str.ofString "plain") = False := eq_false (by decide +kernel)
theorem tg2 : (Str.ofString "and" = Str.ofString "plain") = False := eq_false (by decide +kernel)
theorem tg3 : (Str.ofString "or" = Str.ofString "plain") = False := eq_false (by decide +kernel)
theorem tg4 : (Str.ofString "and" = Str.ofString "not") = False := eq_false (by decide +kernel)
theorem tg5 : (Str.ofString "or" = Str.ofString "not") = False := eq_false (by decide +kernel)
theorem tg6 : (Str.ofString "or" = Str.ofString "and") = False := eq_false (by decide +kernel)
section
variable {K : Frag} {H : Hp} {Q : VK} {p : Addr}
theorem slA_tail {v : V} {vs : List V} (h : H p = some (.tup (v :: vs))) (q : ∀ p' , H p' = none → Q (.ref p') (upd H p' (.tup vs))) : rSlA K (.ref p) (some 1) none H Q := by
  refine ⟨p, _, rfl, Evl.st_of h, fun hw => ?_, fun _ p' hp' => ?_⟩
  · exfalso
    have := hw.1
    rw [show (some (1 : Int)) = some ((1 : Nat) : Int) from rfl, HT.sIx_nat] at this
    simp at this
  · have e : cutV (v :: vs) (some 1) none = vs := by
      unfold cutV
      rw [show (some (1 : Int)) = some ((1 : Nat) : Int) from rfl, HT.sIx_nat, HT.sIx_none]
      have : min 1 (v :: vs).length = 1 := by simp
      rw [this]
      simp
    rw [e]
    exact q p' hp'
theorem extT_ok {b : Addr} {xs zs : List V} (h : H p = some (.lst xs)) (hb : H b = some (.tup zs)) (hz : xs.length + zs.length ≤ 100000) (q : Q .non (upd H p (.lst (xs ++ zs)))) : rExtT K (.ref p) [.ref b] H Q := ⟨p, b, xs, zs, rfl, rfl, h, Evl.st_of hb, hz, q⟩
theorem pop_ok {xs : List V} {y : V} (h : H p = some (.lst (xs ++ [y]))) (q : Q y (upd H p (.lst xs))) : rPop (.ref p) [] H Q := ⟨p, _, y, rfl, rfl, h, by simp, by simpa using q⟩
end
def rRevL (K : Frag) (x : V) (H : Hp) (Q : VK) : Prop := ∃ a xs, x = .ref a ∧ SqL K H a xs ∧ ∀ p, H p = none → Q (.ref p) (upd H p (.lst xs.reverse))
theorem ap_revL {K : Frag} {te : TE} {σ : L2.St} {H : Hp} {Q : VK} : tRevL K te σ H Q = te σ H fun x H1 => rRevL K x H1 Q := rfl
end DR

set_option Elab.async false
set_option linter.all false
set_option maxRecDepth 100000
set_option maxHeartbeats 4000000
namespace DR
open PySem PySem.Spec PyProof.Rows L2
open PySem.W (Frag)
local macro_rules
  | `(tactic| walk_at "wp") => `(tactic| try simp only [L2.start, List.map_cons, List.map_nil, List.length_cons, List.length_nil, List.replicate, Nat.reduceAdd, Nat.reduceSub, List.cons_append, List.nil_append, List.append_nil, List.set_cons_succ, List.set_cons_zero,
      List.getElem?_cons_succ, List.getElem?_cons_zero, ap_K1, ap_K2, ap_seq, ap_next, ap_asg, ap_name, ap_ret, ap_retN, ap_drop, ap_ifS, ap_c, ap_var, ap_op, ap_un, ap_chain, ap_test, ap_B, ap_and, ap_or, ap_not, ap_yes, ap_andV, ap_orV, ap_notV, ap_if, ap_nil, ap_cons, ap_cb, ap_lst, ap_tup, ap_bm, ap_bm0, ap_m1, ap_call, ap_sl, ap_part, ap_nopart, ap_rI0, ap_rI, ap_rU, ap_eqI, ap_neI, ap_eqS, ap_neS, ap_eqB, ap_neB, ap_fld, ap_tup_, ap_gcons, ap_gnil, ap_gsub, ap_for, ap_lc, ap_rng1, ap_rng2, ap_list, ap_itup, ap_str, ap_enum, ap_zip, ap_inSg, ap_ninSg, ap_addS, ap_sfld, ap_meth, ap_prop, ap_make, ap_smeth, ap_never, ap_ost, ap_callS, ap_mko, ap_enumS, ap_zipS, ap_rng3, ap_listRg, ap_leS, lit_alpha, tg1, tg2, tg3, tg4, tg5, tg6, eq_self, ap_revL,  ap_rg1, ap_cval, len_abcdef, exists_and_left, exists_and_right, exists_eq_left', and_assoc, exists_eq_left, exists_eq, exists_eq', Option.some.injEq, V.int.injEq, V.str.injEq, V.ref.injEq, V.bl.injEq, V.ty.injEq, List.cons.injEq, and_true, true_and, decide_eq_true_eq, Bool.not_eq_true', decide_eq_false_iff_not, Bool.false_eq_true, if_true, if_false, reduceCtorEq, false_and, and_false, or_false, false_or, or_true, true_or, not_true_eq_false, not_false_eq_true, Int.zero_add, lit_nil, lit_a, tx_len, one_tx, tx_app, tx_inj, exists_const, forall_const])
  | `(tactic| walk_at "om") => `(tactic| repeat (refine ⟨by first | omega | exact szI, ?_⟩))

theorem RA.other {α β : Type} {R : Hp → α → Addr → Prop} {S : Hp → β → Addr → Prop} {H : Hp} {p l : Addr} {o : HO} {xs : List α} {ys : List β} (f : ∀ (H : Hp) (p : Addr) (o : HO) (x : α) (a : Addr) (ps : List (β × Addr)), H p = some (.lst (ps.map fun q => V.ref q.2)) → R H x a → R (upd H p o) x a) (h : RA R H p xs) (hl : RA S H l ys) (hne : l ≠ p) : RA R (upd H l o) p xs := by
  obtain ⟨ps, e1, e2, e3⟩ := h
  obtain ⟨ps2, _, e5, _⟩ := hl
  exact ⟨ps, e1, by rw [upd_ne (Ne.symm hne)]; exact e2, fun q hq => f _ _ _ _ _ ps2 e5 (e3 q hq)⟩
theorem RA.app {α : Type} {R : Hp → α → Addr → Prop} {H : Hp} {p : Addr} {xs : List α} (f : Off R) (h : RA R H p xs) (es : List (α × Addr)) (he : ∀ q ∈ es, R H q.1 q.2) : ∃ vs, H p = some (.lst vs) ∧ vs.length = xs.length ∧ RA R (upd H p (.lst (vs ++ es.map fun q => V.ref q.2))) p (xs ++ es.map (·.1)) := by
  obtain ⟨ps, h1, h2, h3⟩ := h
  refine ⟨_, h2, by rw [List.length_map, ← h1, List.length_map], ps ++ es, by simp [h1], by rw [upd_same]; simp, fun r hr => ?_⟩
  rcases List.mem_append.mp hr with hr | hr
  · exact f H p _ _ _ ps h2 (h3 r hr)
  · exact f H p _ _ _ ps h2 (he r hr)
def preR (t : Tr) : List Tr := (post t).reverse
theorem sub_no (t : Tr) : preR (.no t) = .no t :: preR t := by simp [preR, post]
theorem sub_an (t u : Tr) : preR (.an t u) = .an t u :: (preR u ++ preR t) := by simp [preR, post]
theorem sub_ro (t u : Tr) : preR (.ro t u) = .ro t u :: (preR u ++ preR t) := by simp [preR, post]
def sp_parts_of (K : Frag) : Sp := fun vs H Q _ => ∃ (a : Addr) (t : Tr), vs = [.ref a] ∧ TrAt H t a ∧ t.size ≤ 1000 ∧ ∀ p H', H p = none → Ex H H' → RA TrAt H' p (post t) → Q (.ref p) H'
theorem stack_size : ∀ ls : List Tr, (ls.reverse.flatMap preR).length = (ls.map Tr.size).sum
  | [] => rfl
  | t :: r => by
    rw [List.reverse_cons, List.flatMap_append, List.length_append, stack_size r, List.map_cons, List.sum_cons]
    simp [preR, post_len]
    omega
theorem sc_parts_of : FnScope ["tree", "found", "left", "part"] ["tree"] (defScope s_parts_of) := ⟨rfl, rfl, rfl, by decide +kernel, rfl, by decide +kernel, by decide +kernel⟩
theorem b_parts_of {K : Frag} {mg : Str → Option Value} (c : Wd K mg) : Binds K (fdOf K (gA K "parts_of")) ["tree"] [] := c.f_parts_of.binds (fun _ _ _ _ _ _ us hl => match us, hl with | [_], _ => rfl)
theorem ok_parts_of {P : Program} {w : World} {K : Frag} {mg : Str → Option Value} {base : Heap} (c : Wd K mg) : FnOk P w K mg base (L2.CX P w) 1 (gA K "parts_of") (fdOf K (gA K "parts_of")) ["tree"] (sp_parts_of K) := by
  refine c.f_parts_of.okX sc_parts_of (fun vs H Q E h => ?_) (fun cdv A outer s H vs Q E hr h => ⟨_, PSs.nox (pss_cons (ps_set (i := 1) sc_parts_of.nd rfl (Or.inl rfl) (pe_lst pa_nil))
      (pss_cons (ps_set (i := 2) sc_parts_of.nd rfl (Or.inl rfl) (pe_lst (pa_cons (pv 0) pa_nil)))
      (pss_cons (ps_while PassesOwn.never (pt_truth (pv 2) (by intro _; rfl)) (pss_cons (ps_set (i := 3) sc_parts_of.nd rfl (Or.inl rfl) (pe_bm0 PySem.F.plainAttrs_list PySem.F.slot_list_pop PySem.F.type_list_pop mt_pop (pv 2)))
      (pss_cons (ps_expr (pe_bm PySem.F.plainAttrs_list PySem.F.slot_list_append PySem.F.type_list_append mt_append (pv 1) (pa_cons (pv 3) pa_nil)))
      (pss_one (ps_if (pt_cmpR op_ne (pe_ix ix_tup (pv 3) pe_int (fun _ _ => rfl)) pe_str (nomark _)) (pss_one (ps_expr (pe_bm PySem.F.plainAttrs_list PySem.F.slot_list_extend PySem.F.type_list_extend mt_extendT (pv 2) (pa_cons (pe_slice sl_tupA (pv 3) (po_some pe_int) po_none) pa_nil)))) pss_nil)))))
      (pss_one (ps_ret (pe_revL (pv 1))))))), ?_⟩)
  · obtain ⟨a, t, rfl, hT, hz, hQ⟩ := h
    rfl
  obtain ⟨a, t, rfl, hT, hz, hQ⟩ := h
  walk_at "wp"
  refine ⟨szI, fun p hp => ⟨szI, fun l hl => ?_⟩⟩
  have hx0 := (Evl.Ex.new (o := .lst []) hp).trans (Evl.Ex.new (o := .lst [.ref a]) hl)
  have hlp : l ≠ p := by rintro rfl; rw [upd_same] at hl; cases hl
  have hlH : H l = none := Evl.fresh_back (Evl.Ex.new hp) hl
  refine ⟨fun k σ' H' => ∃ x, ∃ F Ls : List Tr, σ' = [some (.ref a), some (.ref p), some (.ref l), x] ∧ Ex H H' ∧ RA TrAt H' p F ∧ RA TrAt H' l Ls ∧ F ++ Ls.reverse.flatMap preR = preR t ∧ k = (Ls.map Tr.size).sum,
    ⟨_, _, [], [t], rfl, hx0, ⟨[], rfl, by rw [upd_ne (Ne.symm hlp), upd_same]; rfl, fun q hq => nomatch hq⟩, ⟨[(t, a)], rfl, upd_same, fun q hq => by rw [List.mem_singleton] at hq; subst hq; exact TrAt.mono _ _ _ _ hx0 hT⟩, by simp, rfl⟩, ?_⟩
  rintro k σ' H' ⟨x, F, Ls, rfl, hx, hF, hL, hinv, rfl⟩
  obtain ⟨vs, hv1, hv2, hv3, _⟩ := hL.seq (K := K)
  obtain ⟨us, hu1, hu2, hu3, _⟩ := hF.seq (K := K)
  walk_at "wp"
  refine ⟨!vs.isEmpty, Or.inl ⟨vs, hv1, rfl⟩, ?_⟩
  rcases List.eq_nil_or_concat Ls with rfl | ⟨L0, t0, rfl⟩
  · have hvs : vs = [] := List.eq_nil_of_length_eq_zero hv3
    subst hvs
    simp only [List.isEmpty_nil, Bool.not_true, Bool.false_eq_true, if_false]
    refine ⟨p, us, rfl, hu1, fun r hr => ?_⟩
    refine hQ r _ (Evl.fresh_back hx hr) (hx.trans (Evl.Ex.new hr)) ?_
    have hF2 := hF.mono TrAt.mono (Evl.Ex.new (o := .lst us.reverse) hr)
    obtain ⟨ps, e1, e2, e3⟩ := hF
    have hFe : F.reverse = post t := by
      have : F = preR t := by simpa using hinv
      rw [this]
      simp [preR]
    refine ⟨ps.reverse, by rw [List.map_reverse, e1, hFe], ?_, fun q hq => TrAt.mono _ _ _ _ (Evl.Ex.new hr) (e3 q (List.mem_reverse.mp hq))⟩
    rw [upd_same, List.map_reverse]
    rw [hu2] at e2
    have := Option.some.inj e2
    simp only [HO.lst.injEq] at this
    rw [this]
  · rw [List.concat_eq_append] at *
    have hne : vs.isEmpty = false := by
      cases vs with
      | nil => simp at hv3
      | cons _ _ => rfl
    rw [hne]
    simp only [Bool.not_false, if_true]
    refine ⟨_, fun σ2 H2 h => h, ?_⟩
    obtain ⟨ws, a0, g1, g2, g3⟩ := hL.pop TrAt.off
    have hF2 : RA TrAt (upd H' l (.lst ws)) p F := by
      obtain ⟨ps, e1, e2, e3⟩ := hF
      obtain ⟨ps2, _, e5, _⟩ := hL
      exact ⟨ps, e1, by rw [upd_ne (Ne.symm hlp)]; exact e2, fun q hq => TrAt.off _ _ _ _ _ ps2 e5 (e3 q hq)⟩
    refine ⟨tyL g1, pop_ok g1 ?_⟩
    walk_at "wp"
    have hxl := hx.mut (o := .lst ws) hlH
    obtain ⟨us2, k1, k2, k3⟩ := hF2.push TrAt.off g2
    have hflen : F.length ≤ 1000 := by
      have := congrArg List.length hinv
      rw [List.length_append] at this
      have h2 : (preR t).length = t.size := by simp [preR, post_len]
      omega
    have hslen : (L0.map Tr.size).sum + t0.size ≤ 1000 := by
      have := congrArg List.length hinv
      rw [List.length_append, stack_size, List.map_append, List.sum_append] at this
      have h2 : (preR t).length = t.size := by simp [preR, post_len]
      simp at this
      omega
    have hwl : ws.length = L0.length := by
      obtain ⟨ws', _, m1, m2, _⟩ := g3.seq (K := K)
      rw [upd_same] at m1
      have := Option.some.inj m1
      simp only [HO.lst.injEq] at this
      rw [this]; exact m2
    have hL0 : L0.length ≤ 1000 := by
      have : ∀ ls : List Tr, ls.length ≤ (ls.map Tr.size).sum := by
        intro ls
        induction ls with
        | nil => exact Nat.le_refl _
        | cons t r ih =>
          have : 1 ≤ t.size := by cases t <;> simp [Tr.size]
          simp
          omega
      have := this L0
      omega
    refine ⟨tyL k1, app_ok k1 (by omega) ?_⟩
    walk_at "wp"
    have hxp := hxl.mut (o := .lst (us2 ++ [.ref a0])) hp
    have hg2 : TrAt (upd (upd H' l (.lst ws)) p (.lst (us2 ++ [.ref a0]))) t0 a0 := by
      obtain ⟨ps, _, e2, _⟩ := hF2
      exact TrAt.off _ _ _ _ _ ps e2 g2
    have hg3 : RA TrAt (upd (upd H' l (.lst ws)) p (.lst (us2 ++ [.ref a0]))) l L0 := by
      obtain ⟨ps, e1, e2, e3⟩ := g3
      obtain ⟨ps2, _, e5, _⟩ := hF2
      exact ⟨ps, e1, by rw [upd_ne hlp]; exact e2, fun q hq => TrAt.off _ _ _ _ _ ps2 e5 (e3 q hq)⟩
    have hinv2 : F ++ (preR t0 ++ L0.reverse.flatMap preR) = preR t := by simpa using hinv
    revert hg2 hg3 k3 hxp
    generalize upd (upd H' l (.lst ws)) p (.lst (us2 ++ [.ref a0])) = H3
    intro k3 hxp hg2 hg3
    have hpl : RA TrAt H3 p (F ++ [t0]) := k3
    cases t0 with
    | pl b e n =>
      have hg2 : H3 a0 = some (.tup [.str "plain", .int b, .int e, .int n]) := hg2
      refine ixT_v 0 (Evl.st_of hg2) rfl rfl ?_
      walk_at "wp"
      refine ⟨(L0.map Tr.size).sum, by simp [Tr.size], hxp, F ++ [.pl b e n], hpl, L0, hg3, ?_, rfl⟩
      rw [← hinv2]
      simp [preR, post]
    | no t1 =>
      obtain ⟨x1, hg2, hx1⟩ := hg2
      refine ixT_v 0 (Evl.st_of hg2) rfl rfl ?_
      walk_at "wp"
      obtain ⟨wsT, _, hwT, _⟩ := hg3.seq (K := K)
      refine ⟨tyL hwT, slA_tail hg2 fun p' hp' => ?_⟩
      have hxn := Evl.Ex.new (o := .tup [.ref x1]) hp'
      obtain ⟨vs5, q1, q2, q3⟩ := (hg3.mono TrAt.mono hxn).app TrAt.off [(t1, x1)] (fun q hq => by rw [List.mem_singleton] at hq; subst hq; exact TrAt.mono _ _ _ _ hxn hx1)
      refine extT_ok q1 upd_same (by simp; omega) ?_
      refine ⟨(L0.map Tr.size).sum + t1.size, by simp [Tr.size], (hxp.trans hxn).mut hlH, F ++ [.no t1], (hpl.mono TrAt.mono hxn).other TrAt.off (hg3.mono TrAt.mono hxn) hlp, L0 ++ [t1], q3, ?_, by simp⟩
      rw [← hinv2, sub_no]
      simp
    | an t1 t2 =>
      obtain ⟨x1, x2, hg2, hx1, hx2⟩ := hg2
      refine ixT_v 0 (Evl.st_of hg2) rfl rfl ?_
      walk_at "wp"
      obtain ⟨wsT, _, hwT, _⟩ := hg3.seq (K := K)
      refine ⟨tyL hwT, slA_tail hg2 fun p' hp' => ?_⟩
      have hxn := Evl.Ex.new (o := .tup [.ref x1, .ref x2]) hp'
      obtain ⟨vs5, q1, q2, q3⟩ := (hg3.mono TrAt.mono hxn).app TrAt.off [(t1, x1), (t2, x2)] (fun q hq => by
        rcases List.mem_cons.mp hq with rfl | hq
        · exact TrAt.mono _ _ _ _ hxn hx1
        · rw [List.mem_singleton] at hq; subst hq; exact TrAt.mono _ _ _ _ hxn hx2)
      refine extT_ok q1 upd_same (by simp; omega) ?_
      refine ⟨(L0.map Tr.size).sum + (t1.size + t2.size), by simp [Tr.size], (hxp.trans hxn).mut hlH, F ++ [.an t1 t2], (hpl.mono TrAt.mono hxn).other TrAt.off (hg3.mono TrAt.mono hxn) hlp, L0 ++ [t1, t2], q3, ?_, by simp⟩
      rw [← hinv2, sub_an]
      simp
    | ro t1 t2 =>
      obtain ⟨x1, x2, hg2, hx1, hx2⟩ := hg2
      refine ixT_v 0 (Evl.st_of hg2) rfl rfl ?_
      walk_at "wp"
      obtain ⟨wsT, _, hwT, _⟩ := hg3.seq (K := K)
      refine ⟨tyL hwT, slA_tail hg2 fun p' hp' => ?_⟩
      have hxn := Evl.Ex.new (o := .tup [.ref x1, .ref x2]) hp'
      obtain ⟨vs5, q1, q2, q3⟩ := (hg3.mono TrAt.mono hxn).app TrAt.off [(t1, x1), (t2, x2)] (fun q hq => by
        rcases List.mem_cons.mp hq with rfl | hq
        · exact TrAt.mono _ _ _ _ hxn hx1
        · rw [List.mem_singleton] at hq; subst hq; exact TrAt.mono _ _ _ _ hxn hx2)
      refine extT_ok q1 upd_same (by simp; omega) ?_
      refine ⟨(L0.map Tr.size).sum + (t1.size + t2.size), by simp [Tr.size], (hxp.trans hxn).mut hlH, F ++ [.ro t1 t2], (hpl.mono TrAt.mono hxn).other TrAt.off (hg3.mono TrAt.mono hxn) hlp, L0 ++ [t1, t2], q3, ?_, by simp⟩
      rw [← hinv2, sub_ro]
      simp
end DR

set_option Elab.async false
set_option linter.all false
set_option maxRecDepth 100000
set_option maxHeartbeats 4000000
namespace DR
open PySem PySem.Spec PyProof.Rows L2
open PySem.W (Frag)
local macro_rules
  | `(tactic| walk_at "wp") => `(tactic| try simp only [L2.start, List.map_cons, List.map_nil, List.length_cons, List.length_nil, List.replicate, Nat.reduceAdd, Nat.reduceSub, List.cons_append, List.nil_append, List.append_nil, List.set_cons_succ, List.set_cons_zero,
      List.getElem?_cons_succ, List.getElem?_cons_zero, ap_K1, ap_K2, ap_seq, ap_next, ap_asg, ap_name, ap_ret, ap_retN, ap_drop, ap_ifS, ap_c, ap_var, ap_op, ap_un, ap_chain, ap_test, ap_B, ap_and, ap_or, ap_not, ap_yes, ap_andV, ap_orV, ap_notV, ap_if, ap_nil, ap_cons, ap_cb, ap_lst, ap_tup, ap_bm, ap_bm0, ap_m1, ap_call, ap_sl, ap_part, ap_nopart, ap_rI0, ap_rI, ap_rU, ap_eqI, ap_neI, ap_eqS, ap_neS, ap_eqB, ap_neB, ap_fld, ap_tup_, ap_gcons, ap_gnil, ap_gsub, ap_for, ap_lc, ap_rng1, ap_rng2, ap_list, ap_itup, ap_str, ap_enum, ap_zip, ap_inSg, ap_ninSg, ap_addS, ap_sfld, ap_meth, ap_prop, ap_make, ap_smeth, ap_never, ap_ost, ap_callS, ap_mko, ap_enumS, ap_zipS, ap_rng3, ap_listRg, ap_leS, lit_alpha, tg1, tg2, tg3, tg4, tg5, tg6, eq_self, ap_revL,  ap_rg1, ap_cval, len_abcdef, exists_and_left, exists_and_right, exists_eq_left', and_assoc, exists_eq_left, exists_eq, exists_eq', Option.some.injEq, V.int.injEq, V.str.injEq, V.ref.injEq, V.bl.injEq, V.ty.injEq, List.cons.injEq, and_true, true_and, decide_eq_true_eq, Bool.not_eq_true', decide_eq_false_iff_not, Bool.false_eq_true, if_true, if_false, reduceCtorEq, false_and, and_false, or_false, false_or, or_true, true_or, not_true_eq_false, not_false_eq_true, Int.zero_add, lit_nil, lit_a, tx_len, one_tx, tx_app, tx_inj, exists_const, forall_const])
  | `(tactic| walk_at "om") => `(tactic| repeat (refine ⟨by first | omega | exact szI, ?_⟩))

def sp_Saying_init (K : Frag) : Sp := fun vs H Q _ => ∃ (x dx a : Addr) (t : Tr), vs = [.ref x, .ref a] ∧ H x = some (.ins (gA K "Saying") dx []) ∧ TrAt H t a ∧ ∀ H', ExB x H H' → SayAt K H' x t → Q .non H'
theorem TrAt.exB {H H' : Hp} {x : Addr} {t : Tr} {a : Addr} {o : HO} (e : ExB x H H') (hx : H x = some o) (hn : ∀ xs, o ≠ .tup xs) (h : TrAt H t a) : TrAt H' t a :=
  TrAt.tups (fun b xs hb => e b _ (by rintro rfl; rw [hx] at hb; exact hn xs (Option.some.inj hb)) hb) h
theorem sc_Saying_init : FnScope ["self", "tree"] ["self", "tree"] (defScope s_Saying_init) := ⟨rfl, rfl, rfl, by decide +kernel, rfl, by decide +kernel, by decide +kernel⟩
theorem b_Saying_init {K : Frag} {mg : Str → Option Value} (c : Wd K mg) : Binds K (fdOf K (mA K "Saying" "__init__")) ["self", "tree"] [] := c.f_Saying_init.binds (fun _ _ _ _ _ _ us hl => match us, hl with | [_, _], _ => rfl)
theorem ok_Saying_init {P : Program} {w : World} {K : Frag} {mg : Str → Option Value} {base : Heap} (c : Wd K mg) : FnOk P w K mg base (L2.CX P w) 1 (mA K "Saying" "__init__") (fdOf K (mA K "Saying" "__init__")) ["self", "tree"] (sp_Saying_init K) := by
  refine c.f_Saying_init.okX sc_Saying_init (fun vs H Q E h => ?_) (fun cdv A outer s H vs Q E hr h => ⟨_, PSs.nox (pss_one (ps_fld (pv 0) (pv 1) rfl)), ?_⟩)
  · obtain ⟨x, dx, a, t, rfl, hx, ht, hQ⟩ := h
    rfl
  obtain ⟨x, dx, a, t, rfl, hx, ht, hQ⟩ := h
  walk_at "wp"
  have e : ExB x H (upd H x (.ins (gA K "Saying") dx (putF "_tree" (.ref a) []))) := fun b o hb ho => by rw [upd_ne hb]; exact ho
  exact sfld_ok hx c.c_Saying c.a_Saying_tree (by decide) (hQ _ e ⟨dx, a, by rw [upd_same]; rfl, ht.exB e hx (fun xs => by intro h; cases h)⟩)
theorem mk_say {K : Frag} {a : Addr} {t : Tr} {H : Hp} {Q : VK} {E : XK} (ht : TrAt H t a) (q : ∀ p H', H p = none → Ex H H' → SayAt K H' p t → Q (.ref p) H') :
    rMake (gA K "Saying") (fun x H2 => sp_Saying_init K (.ref x :: ([.ref a] ++ [])) H2 (fun v H3 => v = .non ∧ Q (.ref x) H3) E) H := by
  intro x dx hx hdx hne
  have hE : Ex H (upd (upd H dx (.own x)) x (.ins (gA K "Saying") dx [])) := (Evl.Ex.new hdx).mut hx
  refine ⟨x, dx, a, t, rfl, upd_same, TrAt.mono _ _ _ _ hE ht, fun H' e h => ⟨rfl, q x H' hx (fun b o ho => ?_) h⟩⟩
  exact e b o (ne_of_none ho hx) (hE b o ho)
theorem SayAt.tree {K : Frag} {mg : Str → Option Value} {H : Hp} {Q : VK} {a : Addr} {t : Tr} (c : Wd K mg) (h : SayAt K H a t) (q : ∀ x, TrAt H t x → Q (.ref x) H) : rFld K "_tree" (.ref a) H Q := by
  obtain ⟨dx, b, h1, h2⟩ := h
  exact fld_ok h1 c.c_Saying c.a_Saying_tree (by rfl) (q b h2)
def sp_Saying_least (K : Frag) : Sp := fun vs H Q _ => ∃ b e n : Int, vs = [.int b, .int e, .int n] ∧ b ≤ e ∧ ∀ p H', H p = none → Ex H H' → SayAt K H' p (.pl b e n) → Q (.ref p) H'
theorem sc_Saying_least : FnScope ["begin", "end", "number"] ["begin", "end", "number"] (defScope s_Saying_least) := ⟨rfl, rfl, rfl, by decide +kernel, rfl, by decide +kernel, by decide +kernel⟩
theorem b_Saying_least {K : Frag} {mg : Str → Option Value} (c : Wd K mg) : Binds K (fdOf K (sA K "Saying" "least")) ["begin", "end", "number"] [] := c.f_Saying_least.binds (fun _ _ _ _ _ _ us hl => match us, hl with | [_, _, _], _ => rfl)
theorem ok_Saying_least {P : Program} {w : World} {K : Frag} {mg : Str → Option Value} {base : Heap} (c : Wd K mg) : FnOk P w K mg base (L2.CX P w) 4 (sA K "Saying" "least") (fdOf K (sA K "Saying" "least")) ["begin", "end", "number"] (sp_Saying_least K) := by
  refine c.f_Saying_least.okX sc_Saying_least (fun vs H Q E h => ?_) (fun cdv A outer s H vs Q E hr h => ⟨_, PSs.nox (pss_cons (ps_expr (pe_call (ok_check_stretch c) (hr.mono (by decide)) rfl c.g_check_stretch c.f_check_stretch.kp (b_check_stretch c) .nil passL (pa_cons (pv 0) (pa_cons (pv 1) pa_nil))))
      (pss_one (ps_ret (pe_make c.mk_Saying (ok_Saying_init c) (hr.mono (by decide)) rfl c.g_Saying (b_Saying_init c) .nil passL (pa_cons (pe_tup (pa_cons pe_str (pa_cons (pv 0) (pa_cons (pv 1) (pa_cons (pv 2) pa_nil))))) pa_nil))))), ?_⟩)
  · obtain ⟨b, e, n, rfl, hbe, hQ⟩ := h
    rfl
  obtain ⟨b, e, n, rfl, hbe, hQ⟩ := h
  walk_at "wp"
  refine ⟨b, e, rfl, fun _ => ?_, fun h => absurd h (by omega)⟩
  walk_at "wp"
  refine ⟨szI, fun p hp => ?_⟩
  have hxp := Evl.Ex.new (o := .tup [.str "plain", .int b, .int e, .int n]) hp
  exact mk_say (t := .pl b e n) upd_same fun p' H2 hp' hx2 h2 => hQ p' H2 (Evl.fresh_back hxp hp') (hxp.trans hx2) h2
def sp_Saying_2 (K : Frag) (f : Tr → Tr → Tr) : Sp := fun vs H Q _ => ∃ (a b : Addr) (t u : Tr), vs = [.ref a, .ref b] ∧ SayAt K H a t ∧ SayAt K H b u ∧ ∀ p H', H p = none → Ex H H' → SayAt K H' p (f t u) → Q (.ref p) H'
theorem sc_Saying_and : FnScope ["self", "other"] ["self", "other"] (defScope s_Saying_and) := ⟨rfl, rfl, rfl, by decide +kernel, rfl, by decide +kernel, by decide +kernel⟩
theorem b_Saying_and {K : Frag} {mg : Str → Option Value} (c : Wd K mg) : Binds K (fdOf K (mA K "Saying" "__and__")) ["self", "other"] [] := c.f_Saying_and.binds (fun _ _ _ _ _ _ us hl => match us, hl with | [_, _], _ => rfl)
theorem ok_Saying_and {P : Program} {w : World} {K : Frag} {mg : Str → Option Value} {base : Heap} (c : Wd K mg) : FnOk P w K mg base (L2.CX P w) 3 (mA K "Saying" "__and__") (fdOf K (mA K "Saying" "__and__")) ["self", "other"] (sp_Saying_2 K .an) := by
  refine c.f_Saying_and.okX sc_Saying_and (fun vs H Q E h => ?_) (fun cdv A outer s H vs Q E hr h => ⟨_, PSs.nox (pss_one (ps_ret (pe_make c.mk_Saying (ok_Saying_init c) (hr.mono (by decide)) rfl c.g_Saying (b_Saying_init c) .nil passL (pa_cons (pe_tup (pa_cons pe_str (pa_cons (pe_fld (pv 0) rfl) (pa_cons (pe_fld (pv 1) rfl) pa_nil)))) pa_nil)))), ?_⟩)
  · obtain ⟨a, b, t, u, rfl, ha, hb, hQ⟩ := h
    rfl
  obtain ⟨a, b, t, u, rfl, ha, hb, hQ⟩ := h
  walk_at "wp"
  refine ha.tree c fun x hx => hb.tree c fun y hy => ?_
  refine ⟨szI, fun p hp => ?_⟩
  have hxp := Evl.Ex.new (o := .tup [.str "and", .ref x, .ref y]) hp
  exact mk_say (t := .an t u) ⟨x, y, upd_same, TrAt.mono _ _ _ _ hxp hx, TrAt.mono _ _ _ _ hxp hy⟩ fun p' H2 hp' hx2 h2 => hQ p' H2 (Evl.fresh_back hxp hp') (hxp.trans hx2) h2
theorem sc_Saying_or : FnScope ["self", "other"] ["self", "other"] (defScope s_Saying_or) := ⟨rfl, rfl, rfl, by decide +kernel, rfl, by decide +kernel, by decide +kernel⟩
theorem b_Saying_or {K : Frag} {mg : Str → Option Value} (c : Wd K mg) : Binds K (fdOf K (mA K "Saying" "__or__")) ["self", "other"] [] := c.f_Saying_or.binds (fun _ _ _ _ _ _ us hl => match us, hl with | [_, _], _ => rfl)
theorem ok_Saying_or {P : Program} {w : World} {K : Frag} {mg : Str → Option Value} {base : Heap} (c : Wd K mg) : FnOk P w K mg base (L2.CX P w) 3 (mA K "Saying" "__or__") (fdOf K (mA K "Saying" "__or__")) ["self", "other"] (sp_Saying_2 K .ro) := by
  refine c.f_Saying_or.okX sc_Saying_or (fun vs H Q E h => ?_) (fun cdv A outer s H vs Q E hr h => ⟨_, PSs.nox (pss_one (ps_ret (pe_make c.mk_Saying (ok_Saying_init c) (hr.mono (by decide)) rfl c.g_Saying (b_Saying_init c) .nil passL (pa_cons (pe_tup (pa_cons pe_str (pa_cons (pe_fld (pv 0) rfl) (pa_cons (pe_fld (pv 1) rfl) pa_nil)))) pa_nil)))), ?_⟩)
  · obtain ⟨a, b, t, u, rfl, ha, hb, hQ⟩ := h
    rfl
  obtain ⟨a, b, t, u, rfl, ha, hb, hQ⟩ := h
  walk_at "wp"
  refine ha.tree c fun x hx => hb.tree c fun y hy => ?_
  refine ⟨szI, fun p hp => ?_⟩
  have hxp := Evl.Ex.new (o := .tup [.str "or", .ref x, .ref y]) hp
  exact mk_say (t := .ro t u) ⟨x, y, upd_same, TrAt.mono _ _ _ _ hxp hx, TrAt.mono _ _ _ _ hxp hy⟩ fun p' H2 hp' hx2 h2 => hQ p' H2 (Evl.fresh_back hxp hp') (hxp.trans hx2) h2
def sp_Saying_invert (K : Frag) : Sp := fun vs H Q _ => ∃ (a : Addr) (t : Tr), vs = [.ref a] ∧ SayAt K H a t ∧ ∀ p H', H p = none → Ex H H' → SayAt K H' p (.no t) → Q (.ref p) H'
theorem sc_Saying_invert : FnScope ["self"] ["self"] (defScope s_Saying_invert) := ⟨rfl, rfl, rfl, by decide +kernel, rfl, by decide +kernel, by decide +kernel⟩
theorem b_Saying_invert {K : Frag} {mg : Str → Option Value} (c : Wd K mg) : Binds K (fdOf K (mA K "Saying" "__invert__")) ["self"] [] := c.f_Saying_invert.binds (fun _ _ _ _ _ _ us hl => match us, hl with | [_], _ => rfl)
theorem ok_Saying_invert {P : Program} {w : World} {K : Frag} {mg : Str → Option Value} {base : Heap} (c : Wd K mg) : FnOk P w K mg base (L2.CX P w) 3 (mA K "Saying" "__invert__") (fdOf K (mA K "Saying" "__invert__")) ["self"] (sp_Saying_invert K) := by
  refine c.f_Saying_invert.okX sc_Saying_invert (fun vs H Q E h => ?_) (fun cdv A outer s H vs Q E hr h => ⟨_, PSs.nox (pss_one (ps_ret (pe_make c.mk_Saying (ok_Saying_init c) (hr.mono (by decide)) rfl c.g_Saying (b_Saying_init c) .nil passL (pa_cons (pe_tup (pa_cons pe_str (pa_cons (pe_fld (pv 0) rfl) pa_nil))) pa_nil)))), ?_⟩)
  · obtain ⟨a, t, rfl, ha, hQ⟩ := h
    rfl
  obtain ⟨a, t, rfl, ha, hQ⟩ := h
  walk_at "wp"
  refine ha.tree c fun x hx => ?_
  refine ⟨szI, fun p hp => ?_⟩
  have hxp := Evl.Ex.new (o := .tup [.str "not", .ref x]) hp
  exact mk_say (t := .no t) ⟨x, upd_same, TrAt.mono _ _ _ _ hxp hx⟩ fun p' H2 hp' hx2 h2 => hQ p' H2 (Evl.fresh_back hxp hp') (hxp.trans hx2) h2
/-- the tag of a part -/
def tagOf : Tr → Str
  | .pl _ _ _ => "plain"
  | .no _ => "not"
  | .an _ _ => "and"
  | .ro _ _ => "or"
theorem TrAt.tag {K : Frag} {H : Hp} {Q : VK} {t : Tr} {a : Addr} (h : TrAt H t a) (q : Q (.str (tagOf t)) H) : rIxT K (.ref a) (.int 0) H Q := by
  cases t with
  | pl b e n => exact ixT_v 0 (Evl.st_of h) rfl rfl q
  | no t => obtain ⟨x, h, _⟩ := h; exact ixT_v 0 (Evl.st_of h) rfl rfl q
  | an t u => obtain ⟨x, y, h, _⟩ := h; exact ixT_v 0 (Evl.st_of h) rfl rfl q
  | ro t u => obtain ⟨x, y, h, _⟩ := h; exact ixT_v 0 (Evl.st_of h) rfl rfl q
def sp_Saying_stretches (K : Frag) : Sp := fun vs H Q _ => ∃ (a : Addr) (t : Tr), vs = [.ref a] ∧ SayAt K H a t ∧ t.size ≤ 1000 ∧ ∀ p H', H p = none → Ex H H' → RA PrAt H' p (prs (post t)) → Q (.ref p) H'
theorem sc_Saying_stretches : FnScope ["self", "part"] ["self"] (defScope s_Saying_stretches) := ⟨rfl, rfl, rfl, by decide +kernel, rfl, by decide +kernel, by decide +kernel⟩
theorem b_Saying_stretches {K : Frag} {mg : Str → Option Value} (c : Wd K mg) : Binds K (fdOf K (mA K "Saying" "stretches")) ["self"] [] := c.f_Saying_stretches.binds (fun _ _ _ _ _ _ us hl => match us, hl with | [_], _ => rfl)
theorem ok_Saying_stretches {P : Program} {w : World} {K : Frag} {mg : Str → Option Value} {base : Heap} (c : Wd K mg) : FnOk P w K mg base (L2.CX P w) 2 (mA K "Saying" "stretches") (fdOf K (mA K "Saying" "stretches")) ["self"] (sp_Saying_stretches K) := by
  refine c.f_Saying_stretches.okX sc_Saying_stretches (fun vs H Q E h => ?_) (fun cdv A outer s H vs Q E hr h => ⟨_, PSs.nox (pss_one (ps_ret (pe_lc (own := [("part", 1)]) (g := gName 1) rfl sc_Saying_stretches.nd (pi_list (pe_call (ok_parts_of c) (hr.mono (by decide)) rfl c.g_parts_of c.f_parts_of.kp (b_parts_of c) .nil passL (pa_cons (pe_fld (pv 0) rfl) pa_nil))) (blkOk_by (own := [("part", 1)]) (N := ["self", "part"]) (sc := defScope s_Saying_stretches) (by decide +kernel)) (fun _ _ _ _ _ => (pg_name (i := 1) sc_Saying_stretches.nd rfl (Or.inl rfl))) (fun _ _ _ _ _ => (pts_one (pt_cmpR op_eq (pe_ix (r := rIxT K) ix_tup (pv 1) pe_int (fun _ _ => rfl)) pe_str (nomark _)))) (fun _ _ _ _ _ => (pe_tup (pa_cons (pe_ix (r := rIxT K) ix_tup (pv 1) pe_int (fun _ _ => rfl)) (pa_cons (pe_ix (r := rIxT K) ix_tup (pv 1) pe_int (fun _ _ => rfl)) pa_nil))))))), ?_⟩)
  · obtain ⟨a, t, rfl, ha, hz, hQ⟩ := h
    rfl
  obtain ⟨a, t, rfl, ha, hz, hQ⟩ := h
  walk_at "wp"
  refine ha.tree c fun x hx => ⟨x, t, rfl, hx, hz, fun q H1 hq hx1 hR => ?_⟩
  obtain ⟨vs, hv1, hv2, hv3, hv4⟩ := hR.seq (K := K)
  refine ⟨q, rfl, ⟨vs, hv1⟩, fun D hD => ?_⟩
  have hvl : vs.length = (post t).length := hv3
  refine lc_RA walk_list PrAt.monoD.to PrAt.off (fun i => isPl ((post t).getD i (.pl 0 0 0))) (fun i => plPair ((post t).getD i (.pl 0 0 0))) (fun H' e => Evl.ex_l e hv1) (by rw [hvl, post_len]; omega) hD ?_ ?_
  · rintro i v H2 H3 hi hx2 ⟨rfl, hv⟩ Q' QN q1 q2
    obtain ⟨t0, a0, e1, rfl, e3⟩ := hv4 i v hv
    have e3 := TrAt.mono _ _ _ _ hx2 e3
    have hg : (post t).getD i (.pl 0 0 0) = t0 := by rw [List.getD_eq_getElem?_getD, e1]; rfl
    rw [hg] at q1 q2
    refine ⟨rfl, ?_⟩
    simp only [wipe]
    walk_at "wp"
    refine e3.tag ?_
    cases t0 with
    | pl b e n =>
      have e3 : H3 a0 = some (.tup [.str "plain", .int b, .int e, .int n]) := e3
      simp only [tagOf]
      walk_at "wp"
      refine ixT_v 1 (Evl.st_of e3) rfl rfl (ixT_v 2 (Evl.st_of e3) rfl rfl ?_)
      refine ⟨szI, fun r hr => q1 r _ (Evl.Ex.new hr) upd_same rfl⟩
    | no t => simp only [tagOf]; walk_at "wp"; exact q2 _ (Evl.Ex.refl _) rfl
    | an t u => simp only [tagOf]; walk_at "wp"; exact q2 _ (Evl.Ex.refl _) rfl
    | ro t u => simp only [tagOf]; walk_at "wp"; exact q2 _ (Evl.Ex.refl _) rfl
  · intro H2 hx2 hR2
    rw [hvl, range_pick (post t) (.pl 0 0 0) isPl plPair] at hR2
    exact hQ D H2 (Evl.fresh_back hx1 hD) (hx1.trans hx2) hR2
def mvP (d : Int) (b e n : Int) : Tr := .pl (b + d) (e + d) n
def sp_Saying_moved (K : Frag) : Sp := fun vs H Q _ => ∃ (a : Addr) (t : Tr) (d : Int), vs = [.ref a, .int d] ∧ SayAt K H a t ∧ t.size ≤ 1000 ∧ ∀ p H', H p = none → Ex H H' → SayAt K H' p (t.move d) → Q (.ref p) H'
theorem stp_len {β : Type} {P : Int → Int → Int → β} {N : β → β} {A O : β → β → β} {s s' : List β} {x : Tr} (h : stp P N A O s x = some s') : s'.length ≤ s.length + 1 := by
  have key : ∀ r : List β, r.length = s.length → True := fun _ _ => trivial
  cases x with
  | pl b e n => simp only [stp, Option.some.injEq] at h; subst h; simp
  | no t =>
    simp only [stp] at h
    split at h
    · rename_i t' r hr
      simp only [Option.some.injEq] at h
      subst h
      have := congrArg List.length hr
      simp at this ⊢
      omega
    · cases h
  | an t u =>
    simp only [stp] at h
    split at h
    · rename_i u' t' r hr
      simp only [Option.some.injEq] at h
      subst h
      have := congrArg List.length hr
      simp at this ⊢
      omega
    · cases h
  | ro t u =>
    simp only [stp] at h
    split at h
    · rename_i u' t' r hr
      simp only [Option.some.injEq] at h
      subst h
      have := congrArg List.length hr
      simp at this ⊢
      omega
    · cases h
theorem run_len {β : Type} {P : Int → Int → Int → β} {N : β → β} {A O : β → β → β} : ∀ {ts : List Tr} {s s' : List β}, runM (stp P N A O) ts s = some s' → s'.length ≤ s.length + ts.length
  | [], s, s', h => by simp only [runM, Option.some.injEq] at h; subst h; simp
  | t :: r, s, s', h => by
    simp only [runM] at h
    cases h1 : stp P N A O s t with
    | none => rw [h1] at h; cases h
    | some s1 =>
      rw [h1] at h
      have := stp_len h1
      have := run_len (s := s1) h
      simp
      omega
theorem stp1 {β : Type} {P : Int → Int → Int → β} {N : β → β} {A O : β → β → β} {s s' : List β} {t : Tr} (h : stp P N A O s (.no t) = some s') : ∃ r x, s = r ++ [x] ∧ s' = r ++ [N x] := by
  simp only [stp] at h
  split at h
  · rename_i x r hr
    simp only [Option.some.injEq] at h
    exact ⟨r.reverse, x, by rw [← List.reverse_reverse s, hr]; simp, h.symm⟩
  · cases h
theorem stp2 {β : Type} {P : Int → Int → Int → β} {N : β → β} {A O : β → β → β} {s s' : List β} {t u : Tr} (h : stp P N A O s (.an t u) = some s') : ∃ r x y, s = r ++ [x, y] ∧ s' = r ++ [A x y] := by
  simp only [stp] at h
  split at h
  · rename_i y x r hr
    simp only [Option.some.injEq] at h
    exact ⟨r.reverse, x, y, by rw [← List.reverse_reverse s, hr]; simp, h.symm⟩
  · cases h
theorem stp3 {β : Type} {P : Int → Int → Int → β} {N : β → β} {A O : β → β → β} {s s' : List β} {t u : Tr} (h : stp P N A O s (.ro t u) = some s') : ∃ r x y, s = r ++ [x, y] ∧ s' = r ++ [O x y] := by
  simp only [stp] at h
  split at h
  · rename_i y x r hr
    simp only [Option.some.injEq] at h
    exact ⟨r.reverse, x, y, by rw [← List.reverse_reverse s, hr]; simp, h.symm⟩
  · cases h
theorem sc_Saying_moved : FnScope ["self", "by", "trees", "part", "second"] ["self", "by"] (defScope s_Saying_moved) := ⟨rfl, rfl, rfl, by decide +kernel, rfl, by decide +kernel, by decide +kernel⟩
theorem b_Saying_moved {K : Frag} {mg : Str → Option Value} (c : Wd K mg) : Binds K (fdOf K (mA K "Saying" "moved")) ["self", "by"] [] := c.f_Saying_moved.binds (fun _ _ _ _ _ _ us hl => match us, hl with | [_, _], _ => rfl)
theorem ok_Saying_moved {P : Program} {w : World} {K : Frag} {mg : Str → Option Value} {base : Heap} (c : Wd K mg) : FnOk P w K mg base (L2.CX P w) 3 (mA K "Saying" "moved") (fdOf K (mA K "Saying" "moved")) ["self", "by"] (sp_Saying_moved K) := by
  refine c.f_Saying_moved.okX sc_Saying_moved (fun vs H Q E h => ?_) (fun cdv A outer s H vs Q E hr h => ⟨_, PSs.nox (pss_cons (ps_set (i := 2) sc_Saying_moved.nd rfl (Or.inl rfl) (pe_lst pa_nil))
      (pss_cons (ps_for PassesOwn.never rfl (pi_list (pe_call (ok_parts_of c) (hr.mono (by decide)) rfl c.g_parts_of c.f_parts_of.kp (b_parts_of c) .nil passL (pa_cons (pe_fld (pv 0) rfl) pa_nil))) (pg_name (i := 3) sc_Saying_moved.nd rfl (Or.inl rfl)) (pss_one (ps_if (pt_cmpR op_eq (pe_ix ix_tup (pv 3) pe_int (fun _ _ => rfl)) pe_str (nomark _)) (pss_one (ps_expr (pe_bm PySem.F.plainAttrs_list PySem.F.slot_list_append PySem.F.type_list_append mt_append (pv 2) (pa_cons (pe_tup (pa_cons pe_str (pa_cons (pe_op op_add (pe_ix ix_tup (pv 3) pe_int (fun _ _ => rfl)) (pv 1)) (pa_cons (pe_op op_add (pe_ix ix_tup (pv 3) pe_int (fun _ _ => rfl)) (pv 1)) (pa_cons (pe_ix ix_tup (pv 3) pe_int (fun _ _ => rfl)) pa_nil))))) pa_nil)))) (pss_one (ps_if (pt_cmpR op_eq (pe_ix ix_tup (pv 3) pe_int (fun _ _ => rfl)) pe_str (nomark _)) (pss_one (ps_expr (pe_bm PySem.F.plainAttrs_list PySem.F.slot_list_append PySem.F.type_list_append mt_append (pv 2) (pa_cons (pe_tup (pa_cons pe_str (pa_cons (pe_bm0 PySem.F.plainAttrs_list PySem.F.slot_list_pop PySem.F.type_list_pop mt_pop (pv 2)) pa_nil))) pa_nil)))) (pss_cons (ps_set (i := 4) sc_Saying_moved.nd rfl (Or.inl rfl) (pe_bm0 PySem.F.plainAttrs_list PySem.F.slot_list_pop PySem.F.type_list_pop mt_pop (pv 2)))
      (pss_one (ps_expr (pe_bm PySem.F.plainAttrs_list PySem.F.slot_list_append PySem.F.type_list_append mt_append (pv 2) (pa_cons (pe_tup (pa_cons (pe_ix ix_tup (pv 3) pe_int (fun _ _ => rfl)) (pa_cons (pe_bm0 PySem.F.plainAttrs_list PySem.F.slot_list_pop PySem.F.type_list_pop mt_pop (pv 2)) (pa_cons (pv 4) pa_nil)))) pa_nil))))))))))
      (pss_one (ps_ret (pe_make c.mk_Saying (ok_Saying_init c) (hr.mono (by decide)) rfl c.g_Saying (b_Saying_init c) .nil passL (pa_cons (pe_ix ix_list (pv 2) pe_int (fun _ _ => rfl)) pa_nil)))))), ?_⟩)
  · obtain ⟨a, t, d, rfl, ha, hz, hQ⟩ := h
    rfl
  obtain ⟨a, t, d, rfl, ha, hz, hQ⟩ := h
  walk_at "wp"
  refine ⟨szI, fun l hl => ?_⟩
  have hxl := Evl.Ex.new (o := .lst []) hl
  refine (ha.mono hxl).tree c fun x hx => ⟨x, t, rfl, hx, hz, fun q H1 hq hx1 hR => ?_⟩
  have hql : q ≠ l := by rintro rfl; rw [upd_same] at hq; cases hq
  obtain ⟨vs, hv1, hv2, hv3, hv4⟩ := hR.seq (K := K)
  have hrun := run_post (mvP d) Tr.no Tr.an Tr.ro t []
  refine ⟨q, rfl, ⟨vs, hv1⟩, ?_⟩
  refine lp_list (fun i σ' H' => ∃ x y, ∃ s : List Tr, σ' = [some (.ref a), some (.int d), some (.ref l), x, y] ∧ Ex H H' ∧ RA TrAt H' q (post t) ∧ H' q = some (.lst vs) ∧ RA TrAt H' l s ∧ runM (stp (mvP d) Tr.no Tr.an Tr.ro) ((post t).take i) [] = some s)
    ⟨_, _, [], rfl, hxl.trans hx1, hR, hv2, RA.nil.mono TrAt.mono hx1, rfl⟩ (fun i σ' H' _ ⟨_, _, _, _, _, _, h, _⟩ => Evl.sq_of h) ?_ ?_
  · rintro i v σ' H' hi hv ⟨x', y, s1, rfl, hx2, hRq, hq2, hs1, hr1⟩
    obtain ⟨t0, a0, e1, rfl, _⟩ := hv4 i v hv
    obtain ⟨s0, s', k1, k2, k3⟩ := run_turn _ hrun e1
    rw [hr1] at k1
    cases k1
    have e3 : TrAt H' t0 a0 := by
      obtain ⟨vs', _, m1, _, m2⟩ := hRq.seq (K := K)
      rw [hq2] at m1
      cases m1
      obtain ⟨t1, a1, n1, n2, n3⟩ := m2 i _ hv
      rw [e1] at n1
      cases n1
      cases n2
      exact n3
    have hslen : s1.length ≤ ((post t).take i).length := by simpa using run_len hr1
    have hplen := post_len t
    have htk : ((post t).take i).length ≤ 1000 := by rw [List.length_take]; omega
    walk_at "wp"
    refine e3.tag ?_
    cases t0 with
    | pl b e n =>
      have e3 : H' a0 = some (.tup [.str "plain", .int b, .int e, .int n]) := e3
      simp only [tagOf]
      walk_at "wp"
      obtain ⟨ws, g1, g2, _⟩ := hs1.app TrAt.off [] (fun _ h => nomatch h)
      refine ⟨tyL g1, ?_⟩
      refine ixT_v 1 (Evl.st_of e3) rfl rfl ?_
      walk_at "wp"
      refine ixT_v 2 (Evl.st_of e3) rfl rfl ?_
      walk_at "wp"
      refine ixT_v 3 (Evl.st_of e3) rfl rfl ?_
      refine ⟨szI, fun r hr => ?_⟩
      have hxr := Evl.Ex.new (o := .tup [.str "plain", .int (b + d), .int (e + d), .int n]) hr
      obtain ⟨ws2, g3, g4, g5⟩ := (hs1.mono TrAt.mono hxr).push TrAt.off (x := .pl (b + d) (e + d) n) (q := r) (show TrAt _ (.pl (b + d) (e + d) n) r from upd_same)
      refine app_ok g3 (by omega) ?_
      simp only [stp, Option.some.injEq] at k2
      refine ⟨(hx2.trans hxr).mut hl, (hRq.mono TrAt.mono hxr).other TrAt.off (hs1.mono TrAt.mono hxr) (Ne.symm hql), by rw [upd_ne hql]; exact hxr _ _ hq2, s', by rw [← k2]; exact g5, k3⟩
    | no t1 =>
      simp only [tagOf]
      walk_at "wp"
      obtain ⟨r0, x0, rfl, rfl⟩ := stp1 k2
      refine e3.tag ?_
      simp only [tagOf]
      walk_at "wp"
      obtain ⟨ws, p0, g1, g2, g3⟩ := hs1.pop TrAt.off
      refine ⟨tyL g1, tyL g1, pop_ok g1 ?_⟩
      have hRq2 : RA TrAt (upd H' l (.lst ws)) q (post t) := hRq.other TrAt.off hs1 (Ne.symm hql)
      have hx3 := hx2.mut (o := .lst ws) hl
      have hq3 : upd H' l (.lst ws) q = some (.lst vs) := by rw [upd_ne hql]; exact hq2
      walk_at "wp"
      refine ⟨szI, fun r hr => ?_⟩
      have hxr := Evl.Ex.new (o := .tup [.str "not", .ref p0]) hr
      obtain ⟨ws2, g4, g5, g6⟩ := (g3.mono TrAt.mono hxr).push TrAt.off (x := .no x0) (q := r) (show TrAt _ (.no x0) r from ⟨p0, upd_same, TrAt.mono _ _ _ _ hxr g2⟩)
      have hl2 : r0.length ≤ 2000 := by rw [List.length_append] at hslen; omega
      refine app_ok g4 (by omega) ?_
      refine ⟨(hx3.trans hxr).mut hl, (hRq2.mono TrAt.mono hxr).other TrAt.off (g3.mono TrAt.mono hxr) (Ne.symm hql), by rw [upd_ne hql]; exact hxr _ _ hq3, _, g6, k3⟩
    | an t1 t2 =>
      simp only [tagOf]
      walk_at "wp"
      obtain ⟨r0, x0, y0, rfl, rfl⟩ := stp2 k2
      refine e3.tag ?_
      simp only [tagOf]
      walk_at "wp"
      obtain ⟨ws, p0, g1, g2, g3⟩ := RA.pop (xs := r0 ++ [x0]) (x := y0) TrAt.off (by simpa using hs1)
      refine ⟨tyL g1, pop_ok g1 ?_⟩
      have hRq2 : RA TrAt (upd H' l (.lst ws)) q (post t) := hRq.other TrAt.off hs1 (Ne.symm hql)
      have hx3 := hx2.mut (o := .lst ws) hl
      have hq3 : upd H' l (.lst ws) q = some (.lst vs) := by rw [upd_ne hql]; exact hq2
      have e4 : TrAt (upd H' l (.lst ws)) (.an t1 t2) a0 := TrAt.tups (fun b xs hb => by
        rw [upd_ne]
        · exact hb
        · rintro rfl; rw [g1] at hb; cases hb) e3
      walk_at "wp"
      obtain ⟨ws1, p1, g4, g5, g6⟩ := RA.pop (xs := r0) (x := x0) TrAt.off g3
      rw [upd_same] at g4
      cases g4
      refine ⟨tyL upd_same, ?_⟩
      refine e4.tag ?_
      simp only [tagOf]
      refine ⟨tyL upd_same, pop_ok upd_same ?_⟩
      simp only [upd_upd] at g5 g6 ⊢
      refine ⟨szI, fun r hr => ?_⟩
      have hx4 := hx2.mut (o := .lst ws1) hl
      have hq4 : upd H' l (.lst ws1) q = some (.lst vs) := by rw [upd_ne hql]; exact hq2
      have g2' : TrAt (upd H' l (.lst ws1)) y0 p0 := by
        have := TrAt.tups (H' := upd (upd H' l (.lst (ws1 ++ [.ref p1]))) l (.lst ws1)) (fun b xs hb => by
          rw [upd_ne]
          · exact hb
          · rintro rfl; rw [upd_same] at hb; cases hb) g2
        rwa [upd_upd] at this
      have hRq4 : RA TrAt (upd H' l (.lst ws1)) q (post t) := hRq.other TrAt.off hs1 (Ne.symm hql)
      have hxr := Evl.Ex.new (o := .tup [.str "and", .ref p1, .ref p0]) hr
      obtain ⟨ws2, g7, g8, g9⟩ := (g6.mono TrAt.mono hxr).push TrAt.off (x := .an x0 y0) (q := r) (show TrAt _ (.an x0 y0) r from ⟨p1, p0, upd_same, TrAt.mono _ _ _ _ hxr g5, TrAt.mono _ _ _ _ hxr g2'⟩)
      have hl2 : r0.length ≤ 2000 := by rw [List.length_append] at hslen; omega
      refine app_ok g7 (by omega) ?_
      exact ⟨(hx4.trans hxr).mut hl, (hRq4.mono TrAt.mono hxr).other TrAt.off (g6.mono TrAt.mono hxr) (Ne.symm hql), by rw [upd_ne hql]; exact hxr _ _ hq4, _, g9, k3⟩
    | ro t1 t2 =>
      simp only [tagOf]
      walk_at "wp"
      obtain ⟨r0, x0, y0, rfl, rfl⟩ := stp3 k2
      refine e3.tag ?_
      simp only [tagOf]
      walk_at "wp"
      obtain ⟨ws, p0, g1, g2, g3⟩ := RA.pop (xs := r0 ++ [x0]) (x := y0) TrAt.off (by simpa using hs1)
      refine ⟨tyL g1, pop_ok g1 ?_⟩
      have hRq2 : RA TrAt (upd H' l (.lst ws)) q (post t) := hRq.other TrAt.off hs1 (Ne.symm hql)
      have hx3 := hx2.mut (o := .lst ws) hl
      have hq3 : upd H' l (.lst ws) q = some (.lst vs) := by rw [upd_ne hql]; exact hq2
      have e4 : TrAt (upd H' l (.lst ws)) (.ro t1 t2) a0 := TrAt.tups (fun b xs hb => by
        rw [upd_ne]
        · exact hb
        · rintro rfl; rw [g1] at hb; cases hb) e3
      walk_at "wp"
      obtain ⟨ws1, p1, g4, g5, g6⟩ := RA.pop (xs := r0) (x := x0) TrAt.off g3
      rw [upd_same] at g4
      cases g4
      refine ⟨tyL upd_same, ?_⟩
      refine e4.tag ?_
      simp only [tagOf]
      refine ⟨tyL upd_same, pop_ok upd_same ?_⟩
      simp only [upd_upd] at g5 g6 ⊢
      refine ⟨szI, fun r hr => ?_⟩
      have hx4 := hx2.mut (o := .lst ws1) hl
      have hq4 : upd H' l (.lst ws1) q = some (.lst vs) := by rw [upd_ne hql]; exact hq2
      have g2' : TrAt (upd H' l (.lst ws1)) y0 p0 := by
        have := TrAt.tups (H' := upd (upd H' l (.lst (ws1 ++ [.ref p1]))) l (.lst ws1)) (fun b xs hb => by
          rw [upd_ne]
          · exact hb
          · rintro rfl; rw [upd_same] at hb; cases hb) g2
        rwa [upd_upd] at this
      have hRq4 : RA TrAt (upd H' l (.lst ws1)) q (post t) := hRq.other TrAt.off hs1 (Ne.symm hql)
      have hxr := Evl.Ex.new (o := .tup [.str "or", .ref p1, .ref p0]) hr
      obtain ⟨ws2, g7, g8, g9⟩ := (g6.mono TrAt.mono hxr).push TrAt.off (x := .ro x0 y0) (q := r) (show TrAt _ (.ro x0 y0) r from ⟨p1, p0, upd_same, TrAt.mono _ _ _ _ hxr g5, TrAt.mono _ _ _ _ hxr g2'⟩)
      have hl2 : r0.length ≤ 2000 := by rw [List.length_append] at hslen; omega
      refine app_ok g7 (by omega) ?_
      exact ⟨(hx4.trans hxr).mut hl, (hRq4.mono TrAt.mono hxr).other TrAt.off (g6.mono TrAt.mono hxr) (Ne.symm hql), by rw [upd_ne hql]; exact hxr _ _ hq4, _, g9, k3⟩
  · rintro σ' H' ⟨x', y, s1, rfl, hx2, hRq, hq2, hs1, hr1⟩
    walk_at "wp"
    rw [hv3, List.take_length, hrun] at hr1
    cases hr1
    refine hs1.ix 0 rfl rfl fun z hz => ?_
    exact mk_say hz fun p' H2 hp' hx4 h2 => hQ p' H2 (Evl.fresh_back hx2 hp') (hx2.trans hx4) h2
end DR

set_option Elab.async false
set_option linter.all false
set_option maxRecDepth 100000
set_option maxHeartbeats 4000000
/-! comprehensions of plain values; counts asked by sayings -/
namespace DR
open PySem PySem.Spec PyProof.Rows L2
open PySem.W (Frag)
/-- a comprehension that tells a plain value for each turn -/
theorem lc_V {σ : L2.St} {H : Hp} {te : TE} {tt : TT} {g : TG} {J : It} {n : Nat} {G : Hp → Prop} {Y : Nat → Hp → V → Hp → Prop} {Q : VK} {vs : List Nat} {Dl : Addr} (w : Walk J n G Y) (f : Nat → Bool) (x : Nat → V) (hG : ∀ H', Ex H H' → G H') (hn : n ≤ 50000) (hD : H Dl = none)
    (hs : ∀ i v H1 H', i < n → Ex H H1 → Y i H1 v H' → ∀ Q : VK, ∀ QN : Hp → Prop, (∀ H3, Ex H1 H3 → f i = true → Q (x i) H3) → (∀ H3, Ex H1 H3 → f i = false → QN H3) →
      g v (wipe σ vs) H' fun σ2 H2 => wipe σ2 vs = wipe σ vs ∧ tt σ2 H2 fun b H3 => if b = true then te σ2 H3 Q else QN H3)
    (k : ∀ H', Ex H H' → H' Dl = some (.lst (((List.range n).filter f).map x)) → Q (.ref Dl) H') : LoopC J g tt te vs Dl σ H Q := by
  refine lc_ok w (fun i H' => Ex H H' ∧ H' Dl = some (.lst (((List.range i).filter f).map x))) ⟨Evl.Ex.new hD, by rw [upd_same]; rfl⟩ (fun i H' _ h => hG H' h.1) ?_ (fun H' h => k H' h.1 h.2)
  rintro i v H1 H' hi ⟨h1, h2⟩ y
  have hlen : (((List.range i).filter f).map x).length ≤ i := by
    rw [List.length_map]
    have := List.length_filter_le f (List.range i)
    rwa [List.length_range] at this
  refine hs i v H1 H' hi h1 y (fun yv H4 => ∃ acc, H4 Dl = some (.lst acc) ∧ acc.length < sizeLine ∧ Ex H (upd H4 Dl (.lst (acc ++ [yv]))) ∧ upd H4 Dl (.lst (acc ++ [yv])) Dl = some (.lst (((List.range (i + 1)).filter f).map x))) _ (fun H3 e3 hf => ?_) (fun H3 e3 hf => ⟨h1.trans e3, ?_⟩)
  · refine ⟨_, e3 _ _ h2, szL (by omega), (h1.trans e3).mut hD, ?_⟩
    rw [upd_same, List.range_succ, List.filter_append, List.map_append, List.filter_cons, if_pos hf]
    rfl
  · rw [List.range_succ, List.filter_append, List.map_append, List.filter_cons, if_neg (by rw [hf]; exact Bool.false_ne_true)]
    simpa using e3 _ _ h2
theorem range_all {α β : Type} (xs : List α) (d : α) (g : α → β) : ((List.range xs.length).filter fun _ => true).map (fun i => g (xs.getD i d)) = xs.map g := by
  rw [List.filter_eq_self.mpr (fun _ _ => rfl)]
  refine List.ext_getElem (by simp) fun i h1 h2 => ?_
  rw [List.length_map] at h2
  simp [List.getElem?_eq_getElem h2]
def cntI (t : List Nat) (p : Int × Int) : Int := countIn (beforeOfText t) p.1.toNat p.2.toNat
def plQ (t : List Nat) (b e n : Int) : Bool := decide (cntI t (b, e) ≥ n)
/-- all plains ask inside L places -/
def PlOk (L : Nat) (t : Tr) : Prop := ∀ p ∈ prs (post t), 0 ≤ p.1 ∧ p.1 ≤ p.2 ∧ p.2 + 1 ≤ (L : Int)
theorem prs_at {ts : List Tr} {i : Nat} {x : Tr} (h : ts[i]? = some x) : (isPl x = true → (prs ts)[(prs (ts.take i)).length]? = some (plPair x) ∧ (prs (ts.take (i + 1))).length = (prs (ts.take i)).length + 1) ∧ (isPl x = false → (prs (ts.take (i + 1))).length = (prs (ts.take i)).length) := by
  have hlt : i < ts.length := (List.getElem?_eq_some_iff.mp h).1
  have h1 : ts[i] = x := by
    rw [List.getElem?_eq_getElem hlt] at h
    exact Option.some.inj h
  have e : ts = ts.take i ++ x :: ts.drop (i + 1) := by
    rw [← h1, ← List.drop_eq_getElem_cons hlt, List.take_append_drop]
  have e2 : ts.take (i + 1) = ts.take i ++ [x] := by rw [List.take_add_one, h]; rfl
  constructor
  · intro hp
    constructor
    · have : prs ts = prs (ts.take i) ++ plPair x :: prs (ts.drop (i + 1)) := by
        conv => lhs; rw [e]
        simp [prs, hp]
      rw [this]
      simp
    · rw [e2]
      simp [prs, hp]
  · intro hp
    rw [e2]
    simp [prs, hp]
theorem prs_le (ts : List Tr) : (prs ts).length ≤ ts.length := by
  unfold prs
  rw [List.length_map]
  exact List.length_filter_le _ _
theorem RA.tups {H H' : Hp} {p : Addr} {ts : List Tr} (e : ∀ a xs, H a = some (.tup xs) → H' a = some (.tup xs)) (hp : H' p = H p) (h : RA TrAt H p ts) : RA TrAt H' p ts := by
  obtain ⟨ps, h1, h2, h3⟩ := h
  exact ⟨ps, h1, by rw [hp]; exact h2, fun q hq => TrAt.tups e (h3 q hq)⟩
theorem RA.updL {H : Hp} {p l : Addr} {xs : List V} {o : HO} {ts : List Tr} (hl : H l = some (.lst xs)) (hp : p ≠ l) (h : RA TrAt H p ts) : RA TrAt (upd H l o) p ts :=
  h.tups (fun b ys hb => by
    rw [upd_ne]
    · exact hb
    · rintro rfl; rw [hl] at hb; cases hb) (upd_ne hp)
theorem SayAt.inst {K : Frag} {H : Hp} {P : Prop} {a : Addr} {t : Tr} {m : Str} (h : SayAt K H a t) (hm : (m == Str.ofString "_tree") = false) (q : P) : rInst (gA K "Saying") m (.ref a) H P := by
  obtain ⟨dx, x, h1, h2⟩ := h
  exact inst_ok h1 (by simp only [List.lookup, hm]) q
theorem CoatAt.inst {K : Frag} {H : Hp} {P : Prop} {a : Addr} {t : List Nat} {m : Str} (h : CoatAt K H a t) (hm : (m == Str.ofString "_text") = false) (hm2 : (m == Str.ofString "_before") = false) (q : P) : rInst (gA K "Coat") m (.ref a) H P := by
  obtain ⟨dx, x, h1, h2⟩ := h
  exact inst_ok h1 (by simp only [List.lookup, hm, hm2]) q
end DR

set_option Elab.async false
set_option linter.all false
set_option maxRecDepth 100000
set_option maxHeartbeats 4000000
namespace DR
open PySem PySem.Spec PyProof.Rows L2
open PySem.W (Frag)
local macro_rules
  | `(tactic| walk_at "wp") => `(tactic| try simp only [L2.start, List.map_cons, List.map_nil, List.length_cons, List.length_nil, List.replicate, Nat.reduceAdd, Nat.reduceSub, List.cons_append, List.nil_append, List.append_nil, List.set_cons_succ, List.set_cons_zero,
      List.getElem?_cons_succ, List.getElem?_cons_zero, ap_K1, ap_K2, ap_seq, ap_next, ap_asg, ap_name, ap_ret, ap_retN, ap_drop, ap_ifS, ap_c, ap_var, ap_op, ap_un, ap_chain, ap_test, ap_B, ap_and, ap_or, ap_not, ap_yes, ap_andV, ap_orV, ap_notV, ap_if, ap_nil, ap_cons, ap_cb, ap_lst, ap_tup, ap_bm, ap_bm0, ap_m1, ap_call, ap_sl, ap_part, ap_nopart, ap_rI0, ap_rI, ap_rU, ap_eqI, ap_neI, ap_eqS, ap_neS, ap_eqB, ap_neB, ap_fld, ap_tup_, ap_gcons, ap_gnil, ap_gsub, ap_for, ap_lc, ap_rng1, ap_rng2, ap_list, ap_itup, ap_str, ap_enum, ap_zip, ap_inSg, ap_ninSg, ap_addS, ap_sfld, ap_meth, ap_prop, ap_make, ap_smeth, ap_never, ap_ost, ap_callS, ap_mko, ap_enumS, ap_zipS, ap_rng3, ap_listRg, ap_leS, lit_alpha, tg1, tg2, tg3, tg4, tg5, tg6, eq_self, ap_revL,  ap_rg1, ap_cval, len_abcdef, exists_and_left, exists_and_right, exists_eq_left', and_assoc, exists_eq_left, exists_eq, exists_eq', Option.some.injEq, V.int.injEq, V.str.injEq, V.ref.injEq, V.bl.injEq, V.ty.injEq, List.cons.injEq, and_true, true_and, decide_eq_true_eq, Bool.not_eq_true', decide_eq_false_iff_not, Bool.false_eq_true, if_true, if_false, reduceCtorEq, false_and, and_false, or_false, false_or, or_true, true_or, not_true_eq_false, not_false_eq_true, Int.zero_add, lit_nil, lit_a, tx_len, one_tx, tx_app, tx_inj, exists_const, forall_const])
  | `(tactic| walk_at "om") => `(tactic| repeat (refine ⟨by first | omega | exact szI, ?_⟩))

def sp_Saying_call (K : Frag) : Sp := fun vs H Q _ => ∃ (a : Addr) (t : Tr) (cb : Addr) (tt : List Nat), vs = [.ref a, .ref cb] ∧ SayAt K H a t ∧ CoatAt K H cb tt ∧ PlOk tt.length t ∧ t.size ≤ 1000 ∧ tt.length ≤ 50 ∧ ∀ H', Ex H H' → Q (.bl (t.ev (plQ tt))) H'
theorem sc_Saying_call : FnScope ["self", "counted", "counts", "truths", "asked", "part", "second", "first", "begin", "end"] ["self", "counted"] (defScope s_Saying_call) := ⟨rfl, rfl, rfl, by decide +kernel, rfl, by decide +kernel, by decide +kernel⟩
theorem b_Saying_call {K : Frag} {mg : Str → Option Value} (c : Wd K mg) : Binds K (fdOf K (mA K "Saying" "__call__")) ["self", "counted"] [] := c.f_Saying_call.binds (fun _ _ _ _ _ _ us hl => match us, hl with | [_, _], _ => rfl)
theorem ok_Saying_call {P : Program} {w : World} {K : Frag} {mg : Str → Option Value} {base : Heap} (c : Wd K mg) : FnOk P w K mg base (L2.CX P w) 6 (mA K "Saying" "__call__") (fdOf K (mA K "Saying" "__call__")) ["self", "counted"] (sp_Saying_call K) := by
  refine c.f_Saying_call.okX sc_Saying_call (fun vs H Q E h => ?_) (fun cdv A outer s H vs Q E hr h => ⟨_, PSs.nox (pss_cons (ps_setLc (i := 2) (own := [("begin", 8), ("end", 9)]) rfl sc_Saying_call.nd rfl rfl (sw_true rfl rfl rfl (by decide +kernel)) (pi_list (pe_meth0 (pv 0) c.c_Saying c.m_Saying_stretches (ok_Saying_stretches c) (hr.mono (by decide)) (b_Saying_stretches c) .nil passL)) (blkOk_by (own := [("begin", 8), ("end", 9)]) (N := ["self", "counted", "counts", "truths", "asked", "part", "second", "first", "begin", "end"]) (sc := defScope s_Saying_call) (by decide +kernel)) (fun _ _ _ _ _ => (pg_tupK (n := 2) rfl (pgs_cons (pg_name (i := 8) sc_Saying_call.nd rfl (Or.inl rfl)) (pgs_cons (pg_name (i := 9) sc_Saying_call.nd rfl (Or.inl rfl)) pgs_nil)))) (fun _ _ _ _ _ => pts_nil) (fun _ _ _ _ _ => (pe_meth (pv 1) c.c_Coat c.m_Coat_count (ok_Coat_count c) (hr.mono (by decide)) (b_Coat_count c) .nil passL (pa_cons (pv 8) (pa_cons (pv 9) pa_nil)))))
      (pss_cons (ps_set (i := 3) sc_Saying_call.nd rfl (Or.inl rfl) (pe_lst pa_nil))
      (pss_cons (ps_set (i := 4) sc_Saying_call.nd rfl (Or.inl rfl) pe_int)
      (pss_cons (ps_for PassesOwn.never rfl (pi_list (pe_call (ok_parts_of c) (hr.mono (by decide)) rfl c.g_parts_of c.f_parts_of.kp (b_parts_of c) .nil passL (pa_cons (pe_fld (pv 0) rfl) pa_nil))) (pg_name (i := 5) sc_Saying_call.nd rfl (Or.inl rfl)) (pss_one (ps_if (pt_cmpR op_eq (pe_ix ix_tup (pv 5) pe_int (fun _ _ => rfl)) pe_str (nomark _)) (pss_cons (ps_expr (pe_bm PySem.F.plainAttrs_list PySem.F.slot_list_append PySem.F.type_list_append mt_append (pv 3) (pa_cons (pe_cmpR op_ge (pe_ix ix_list (pv 2) (pv 4) (fun _ _ => rfl)) (pe_ix ix_tup (pv 5) pe_int (fun _ _ => rfl)) (nomark _)) pa_nil)))
      (pss_one (ps_set (i := 4) sc_Saying_call.nd rfl (Or.inl rfl) (pe_op op_add (pv 4) pe_int)))) (pss_one (ps_if (pt_cmpR op_eq (pe_ix ix_tup (pv 5) pe_int (fun _ _ => rfl)) pe_str (nomark _)) (pss_one (ps_expr (pe_bm PySem.F.plainAttrs_list PySem.F.slot_list_append PySem.F.type_list_append mt_append (pv 3) (pa_cons (pe_not (pe_bm0 PySem.F.plainAttrs_list PySem.F.slot_list_pop PySem.F.type_list_pop mt_pop (pv 3))) pa_nil)))) (pss_cons (ps_set (i := 6) sc_Saying_call.nd rfl (Or.inl rfl) (pe_bm0 PySem.F.plainAttrs_list PySem.F.slot_list_pop PySem.F.type_list_pop mt_pop (pv 3)))
      (pss_cons (ps_set (i := 7) sc_Saying_call.nd rfl (Or.inl rfl) (pe_bm0 PySem.F.plainAttrs_list PySem.F.slot_list_pop PySem.F.type_list_pop mt_pop (pv 3)))
      (pss_one (ps_expr (pe_bm PySem.F.plainAttrs_list PySem.F.slot_list_append PySem.F.type_list_append mt_append (pv 3) (pa_cons (pe_ifExp (pt_cmpR op_eq (pe_ix ix_tup (pv 5) pe_int (fun _ _ => rfl)) pe_str (nomark _)) (pe_and (pv 7) (pe_one (pv 6))) (pe_or (pv 7) (pe_one (pv 6)))) pa_nil)))))))))))
      (pss_one (ps_ret (pe_ix ix_list (pv 3) pe_int (fun _ _ => rfl)))))))), ?_⟩)
  · obtain ⟨a, t, cb, tt, rfl, ha, hcb, hpl, hz, htt, hQ⟩ := h
    rfl
  obtain ⟨a, t, cb, tt, rfl, ha, hcb, hpl, hz, htt, hQ⟩ := h
  walk_at "wp"
  refine ha.inst (by decide) ?_
  refine ⟨a, t, rfl, ha, hz, fun q H1 hq hx1 hR => ?_⟩
  obtain ⟨vs, hv1, hv2, hv3, hv4⟩ := hR.seq (K := K)
  have hvl : vs.length ≤ 1000 := by rw [hv3]; have := prs_le (post t); rw [post_len] at this; omega
  refine ⟨q, rfl, ⟨vs, hv1⟩, fun D hD => ?_⟩
  refine lc_V walk_list (fun _ => true) (fun i => .int (cntI tt ((prs (post t)).getD i (0, 0)))) (fun H' e => Evl.ex_l e hv1) (by omega) hD ?_ ?_
  · rintro i v H2 H3 hi hx2 ⟨rfl, hv⟩ Q' QN q1 q2
    obtain ⟨⟨b, e⟩, a0, e1, rfl, e3⟩ := hv4 i v hv
    have e3 := PrAt.monoD.to _ _ _ _ hx2 e3
    have hg : (prs (post t)).getD i (0, 0) = (b, e) := by rw [List.getD_eq_getElem?_getD, e1]; rfl
    rw [hg] at q1
    have hb := hpl (b, e) (List.mem_of_getElem? e1)
    simp only at hb
    obtain ⟨b', rfl⟩ := Int.eq_ofNat_of_zero_le hb.1
    obtain ⟨e', rfl⟩ := Int.eq_ofNat_of_zero_le (show 0 ≤ e by omega)
    simp only [wipe]
    walk_at "wp"
    refine ⟨_, Evl.st_of e3, rfl, _, _, rfl, _, _, rfl, rfl, ?_⟩
    have hcb2 := (hcb.mono hx1).mono hx2
    refine hcb2.inst (by decide) (by decide) ?_
    exact ⟨cb, tt, b', e', rfl, hcb2, by omega, by omega, htt, by simpa [cntI] using q1 H3 (Evl.Ex.refl _) rfl⟩
  · intro H2 hx2 hR2
    rw [hv3, range_all (prs (post t)) (0, 0) (fun p => V.int (cntI tt p))] at hR2
    have hQ2 : ∀ H', Ex H2 H' → Q (.bl (t.ev (plQ tt))) H' := fun H' e => hQ H' ((hx1.trans hx2).trans e)
    have ha2 := (ha.mono hx1).mono hx2
    have hDl := hR2
    clear hv4 hv3 hv2 hv1 hvl hR hQ
    refine ⟨szI, fun l hl => ?_⟩
    have hxl := Evl.Ex.new (o := .lst []) hl
    refine (ha2.mono hxl).tree c fun x hx => ⟨x, t, rfl, hx, hz, fun q2 H3 hq2 hx3 hR3 => ?_⟩
    have hql : q2 ≠ l := by rintro rfl; rw [upd_same] at hq2; cases hq2
    obtain ⟨ws, hw1, hw2, hw3, hw4⟩ := hR3.seq (K := K)
    have hrun := run_post (plQ tt) not (· && ·) (· || ·) t []
    have hplen := post_len t
    refine ⟨q2, rfl, ⟨ws, hw1⟩, ?_⟩
    have hDl3 := hx3 _ _ (hxl _ _ hDl)
    have hl3 := hx3 _ _ (upd_same (H := H2) (a := l) (o := .lst []))
    refine lp_list (fun i σ' H' => ∃ x y z, ∃ s : List Bool, σ' = [some (.ref a), some (.ref cb), some (.ref D), some (.ref l), some (.int (prs ((post t).take i)).length), x, y, z, none, none] ∧ Ex H2 H' ∧ RA TrAt H' q2 (post t) ∧ H' q2 = some (.lst ws) ∧ H' l = some (.lst (s.map V.bl)) ∧ H' D = some (.lst ((prs (post t)).map fun p => V.int (cntI tt p))) ∧ runM (stp (plQ tt) not (· && ·) (· || ·)) ((post t).take i) [] = some s)
      ⟨_, _, _, [], rfl, hxl.trans hx3, hR3, hw2, hl3, hDl3, rfl⟩ (fun i σ' H' _ ⟨_, _, _, _, _, _, _, h, _⟩ => Evl.sq_of h) ?_ ?_
    · rintro i v σ' H' hi hv ⟨x', y, z, s1, rfl, hx4, hRq, hq3, hs1, hDn, hr1⟩
      obtain ⟨t0, a0, e1, rfl, _⟩ := hw4 i v hv
      obtain ⟨s0, s', k1, k2, k3⟩ := run_turn _ hrun e1
      rw [hr1] at k1
      cases k1
      have e3 : TrAt H' t0 a0 := by
        obtain ⟨vs', _, m1, _, m2⟩ := hRq.seq (K := K)
        rw [hq3] at m1
        cases m1
        obtain ⟨t1, a1, n1, n2, n3⟩ := m2 i _ hv
        rw [e1] at n1
        cases n1
        cases n2
        exact n3
      have hslen : s1.length ≤ ((post t).take i).length := by simpa using run_len hr1
      have htk : ((post t).take i).length ≤ 1000 := by rw [List.length_take]; omega
      have hpa := prs_at e1
      have hDl5 : l ≠ D := by
        rintro rfl
        rw [hDl] at hl
        cases hl
      have fin : ∀ s2 : List Bool, s2 = s' → Ex H2 (upd H' l (.lst (s2.map V.bl))) ∧ RA TrAt (upd H' l (.lst (s2.map V.bl))) q2 (post t) ∧ upd H' l (.lst (s2.map V.bl)) q2 = some (.lst ws) ∧ upd H' l (.lst (s2.map V.bl)) l = some (.lst (s'.map V.bl)) ∧ upd H' l (.lst (s2.map V.bl)) D = some (.lst ((prs (post t)).map fun p => V.int (cntI tt p))) := by
        rintro s2 rfl
        exact ⟨hx4.mut hl, hRq.updL hs1 hql, by rw [upd_ne hql]; exact hq3, upd_same, by rw [upd_ne (Ne.symm hDl5)]; exact hDn⟩
      walk_at "wp"
      refine e3.tag ?_
      cases t0 with
      | pl b e n =>
        have e3 : H' a0 = some (.tup [.str "plain", .int b, .int e, .int n]) := e3
        obtain ⟨p1, p2⟩ := hpa.1 rfl
        simp only [tagOf]
        walk_at "wp"
        refine ⟨tyL hs1, ?_⟩
        refine ixL_v (prs ((post t).take i)).length (Evl.sq_of hDn) rfl (by rw [List.getElem?_map, p1]; rfl) ?_
        walk_at "wp"
        refine ixT_v 3 (Evl.st_of e3) rfl rfl ?_
        walk_at "wp"
        refine app_ok hs1 (by rw [List.length_map]; omega) ?_
        simp only [stp, Option.some.injEq] at k2
        have := fin _ k2
        have hp : ((prs ((post t).take (i + 1))).length : Int) = (prs ((post t).take i)).length + 1 := by rw [p2]; rfl
        rw [List.map_append] at this
        exact ⟨hp.symm, this.1, this.2.1, this.2.2.1, _, this.2.2.2.1, this.2.2.2.2, k3⟩
      | no t1 =>
        simp only [tagOf]
        walk_at "wp"
        obtain ⟨r0, x0, rfl, rfl⟩ := stp1 k2
        have hz1 : r0.length ≤ 2000 := by rw [List.length_append] at hslen; omega
        refine e3.tag ?_
        simp only [tagOf]
        walk_at "wp"
        have g1 : H' l = some (.lst (r0.map V.bl ++ [.bl x0])) := by rw [hs1]; simp
        refine ⟨tyL g1, tyL g1, pop_ok g1 ?_⟩
        walk_at "wp"
        refine app_ok upd_same (by rw [List.length_map]; omega) ?_
        rw [upd_upd]
        have := fin _ rfl
        have hp := hpa.2 rfl
        rw [List.map_append] at this
        exact ⟨by rw [hp], this.1, this.2.1, this.2.2.1, _, (by rw [List.map_append]; exact this.2.2.2.1), this.2.2.2.2, k3⟩
      | an t1 t2 =>
        simp only [tagOf]
        walk_at "wp"
        obtain ⟨r0, x0, y0, rfl, rfl⟩ := stp2 k2
        have hz1 : r0.length ≤ 2000 := by rw [List.length_append] at hslen; omega
        refine e3.tag ?_
        simp only [tagOf]
        walk_at "wp"
        have g1 : H' l = some (.lst ((r0.map V.bl ++ [.bl x0]) ++ [.bl y0])) := by rw [hs1]; simp
        refine ⟨tyL g1, pop_ok g1 ?_⟩
        walk_at "wp"
        refine ⟨tyL upd_same, pop_ok upd_same ?_⟩
        rw [upd_upd]
        walk_at "wp"
        have e4 : TrAt (upd H' l (.lst (r0.map V.bl))) (.an t1 t2) a0 := TrAt.tups (fun b xs hb => by
          rw [upd_ne]
          · exact hb
          · rintro rfl; rw [g1] at hb; cases hb) e3
        refine ⟨tyL upd_same, ?_⟩
        refine e4.tag ?_
        simp only [tagOf]
        walk_at "wp"
        have := fin _ rfl
        have hp := hpa.2 rfl
        cases x0 <;> simp only [if_true, if_false, Bool.false_eq_true] <;> rw [List.map_append] at this <;> (refine app_ok upd_same (by rw [List.length_map]; omega) ?_; rw [upd_upd]; exact ⟨by rw [hp], this.1, this.2.1, this.2.2.1, _, (by rw [List.map_append]; exact this.2.2.2.1), this.2.2.2.2, k3⟩)
      | ro t1 t2 =>
        simp only [tagOf]
        walk_at "wp"
        obtain ⟨r0, x0, y0, rfl, rfl⟩ := stp3 k2
        have hz1 : r0.length ≤ 2000 := by rw [List.length_append] at hslen; omega
        refine e3.tag ?_
        simp only [tagOf]
        walk_at "wp"
        have g1 : H' l = some (.lst ((r0.map V.bl ++ [.bl x0]) ++ [.bl y0])) := by rw [hs1]; simp
        refine ⟨tyL g1, pop_ok g1 ?_⟩
        walk_at "wp"
        refine ⟨tyL upd_same, pop_ok upd_same ?_⟩
        rw [upd_upd]
        walk_at "wp"
        have e4 : TrAt (upd H' l (.lst (r0.map V.bl))) (.ro t1 t2) a0 := TrAt.tups (fun b xs hb => by
          rw [upd_ne]
          · exact hb
          · rintro rfl; rw [g1] at hb; cases hb) e3
        refine ⟨tyL upd_same, ?_⟩
        refine e4.tag ?_
        simp only [tagOf]
        walk_at "wp"
        have := fin _ rfl
        have hp := hpa.2 rfl
        cases x0 <;> simp only [if_true, if_false, Bool.false_eq_true] <;> rw [List.map_append] at this <;> (refine app_ok upd_same (by rw [List.length_map]; omega) ?_; rw [upd_upd]; exact ⟨by rw [hp], this.1, this.2.1, this.2.2.1, _, (by rw [List.map_append]; exact this.2.2.2.1), this.2.2.2.2, k3⟩)
    · rintro σ' H' ⟨x', y, z, s1, rfl, hx4, hRq, hq3, hs1, hDn, hr1⟩
      walk_at "wp"
      rw [hw3, List.take_length, hrun] at hr1
      cases hr1
      exact ixL_v 0 (Evl.sq_of hs1) rfl rfl (hQ2 _ hx4)
end DR

set_option Elab.async false
set_option linter.all false
set_option maxRecDepth 100000
set_option maxHeartbeats 4000000
/-! the first fault, and what a raise keeps -/
namespace DR
open PySem PySem.Spec PyProof.Rows L2
open PySem.W (Frag)
theorem find_step {α : Type} {xs : List α} {p : α → Bool} {i : Nat} {x : α} (h : xs[i]? = some x) (hn : (xs.take i).find? p = none) : (p x = true → xs.find? p = some x) ∧ (p x = false → (xs.take (i + 1)).find? p = none) := by
  have hlt : i < xs.length := (List.getElem?_eq_some_iff.mp h).1
  have h1 : xs[i] = x := by
    rw [List.getElem?_eq_getElem hlt] at h
    exact Option.some.inj h
  have e : xs = xs.take i ++ x :: xs.drop (i + 1) := by
    rw [← h1, ← List.drop_eq_getElem_cons hlt, List.take_append_drop]
  constructor
  · intro hp
    conv => lhs; rw [e]
    rw [List.find?_append, hn]
    simp [hp]
  · intro hp
    rw [List.take_add_one, h, List.find?_append, hn]
    simp [hp]
theorem Xw.mono {E : XK} {C : Addr} {fs : List (Str × V)} {H H' : Hp} (e : Ex H H') (h : Xw E C fs H) : Xw E C fs H' := fun d H2 hd hx hv => h d H2 (Evl.fresh_back e hd) (e.trans hx) hv
/-- is a sign of the window's signs at fault -/
def badSg (ws : List (List Nat)) (t : List Nat) (i : Nat) : Bool := !decide (t.getD i 0 ∈ signsOf ws) || (decide (0 < i) && !decide (t.getD (i - 1) 0 < t.getD i 0))
theorem badSg_f {ws : List (List Nat)} {t : List Nat} {i : Nat} : badSg ws t i = false ↔ t.getD i 0 ∈ signsOf ws ∧ (i = 0 ∨ t.getD (i - 1) 0 < t.getD i 0) := by
  unfold badSg
  rw [Bool.or_eq_false_iff, Bool.not_eq_false', decide_eq_true_eq, Bool.and_eq_false_iff, decide_eq_false_iff_not, Bool.not_eq_false', decide_eq_true_eq]
  constructor
  · rintro ⟨h1, h2⟩
    exact ⟨h1, h2.imp (by omega) id⟩
  · rintro ⟨h1, h2⟩
    exact ⟨h1, h2.imp (by omega) id⟩
theorem badSg_t {ws : List (List Nat)} {t : List Nat} {i : Nat} (h : ¬ (t.getD i 0 ∈ signsOf ws ∧ (i = 0 ∨ t.getD (i - 1) 0 < t.getD i 0))) : badSg ws t i = true := by
  cases e : badSg ws t i with
  | true => rfl
  | false => exact absurd (badSg_f.mp e) h
def badAt (ws : List (List Nat)) (t : List Nat) : Option Nat := (List.range t.length).find? (badSg ws t)
def outP (b e : Int) (p : Int × Int) : Bool := decide (p.1 < b) || decide (p.2 > e)
def outAt (b e : Int) (t : Tr) : Option (Int × Int) := (prs (post t)).find? (outP b e)
end DR

set_option Elab.async false
set_option linter.all false
set_option maxRecDepth 100000
set_option maxHeartbeats 4000000
namespace DR
open PySem PySem.Spec PyProof.Rows L2
open PySem.W (Frag)
local macro_rules
  | `(tactic| walk_at "wp") => `(tactic| try simp only [L2.start, List.map_cons, List.map_nil, List.length_cons, List.length_nil, List.replicate, Nat.reduceAdd, Nat.reduceSub, List.cons_append, List.nil_append, List.append_nil, List.set_cons_succ, List.set_cons_zero,
      List.getElem?_cons_succ, List.getElem?_cons_zero, ap_K1, ap_K2, ap_seq, ap_next, ap_asg, ap_name, ap_ret, ap_retN, ap_drop, ap_ifS, ap_c, ap_var, ap_op, ap_un, ap_chain, ap_test, ap_B, ap_and, ap_or, ap_not, ap_yes, ap_andV, ap_orV, ap_notV, ap_if, ap_nil, ap_cons, ap_cb, ap_lst, ap_tup, ap_bm, ap_bm0, ap_m1, ap_call, ap_sl, ap_part, ap_nopart, ap_rI0, ap_rI, ap_rU, ap_eqI, ap_neI, ap_eqS, ap_neS, ap_eqB, ap_neB, ap_fld, ap_tup_, ap_gcons, ap_gnil, ap_gsub, ap_for, ap_lc, ap_rng1, ap_rng2, ap_list, ap_itup, ap_str, ap_enum, ap_zip, ap_inSg, ap_ninSg, ap_addS, ap_sfld, ap_meth, ap_prop, ap_make, ap_smeth, ap_never, ap_ost, ap_callS, ap_mko, ap_enumS, ap_zipS, ap_rng3, ap_listRg, ap_leS, lit_alpha, tg1, tg2, tg3, tg4, tg5, tg6, eq_self, ap_revL,  ap_rg1, ap_cval, len_abcdef, exists_and_left, exists_and_right, exists_eq_left', and_assoc, exists_eq_left, exists_eq, exists_eq', Option.some.injEq, V.int.injEq, V.str.injEq, V.ref.injEq, V.bl.injEq, V.ty.injEq, List.cons.injEq, and_true, true_and, decide_eq_true_eq, Bool.not_eq_true', decide_eq_false_iff_not, Bool.false_eq_true, if_true, if_false, reduceCtorEq, false_and, and_false, or_false, false_or, or_true, true_or, not_true_eq_false, not_false_eq_true, Int.zero_add, lit_nil, lit_a, tx_len, one_tx, tx_app, tx_inj, exists_const, forall_const])
  | `(tactic| walk_at "om") => `(tactic| repeat (refine ⟨by first | omega | exact szI, ?_⟩))

def sp_check_signs (K : Frag) : Sp := fun vs H Q E => ∃ (a : Addr) (ws : List (List Nat)) (t : List Nat), vs = [.ref a, .str (tx t)] ∧ CalAt K H a ws ∧ (ws.map List.length).sum ≤ 1000 ∧ t.length ≤ 1000 ∧ (badAt ws t = none → ∀ H', Ex H H' → Q .non H') ∧ (∀ i, badAt ws t = some i → Xw E (gA K "BadSigns") [("index", .int (i : Int))] H)
theorem sc_check_signs : FnScope ["calendar", "signs", "known", "index"] ["calendar", "signs"] (defScope s_check_signs) := ⟨rfl, rfl, rfl, by decide +kernel, rfl, by decide +kernel, by decide +kernel⟩
theorem b_check_signs {K : Frag} {mg : Str → Option Value} (c : Wd K mg) : Binds K (fdOf K (gA K "check_signs")) ["calendar", "signs"] [] := c.f_check_signs.binds (fun _ _ _ _ _ _ us hl => match us, hl with | [_, _], _ => rfl)
theorem ok_check_signs {P : Program} {w : World} {K : Frag} {mg : Str → Option Value} {base : Heap} (c : Wd K mg) : FnOk P w K mg base (L2.CX P w) 3 (gA K "check_signs") (fdOf K (gA K "check_signs")) ["calendar", "signs"] (sp_check_signs K) := by
  refine c.f_check_signs.okX sc_check_signs (fun vs H Q E h => ?_) (fun cdv A outer s H vs Q E hr h => ⟨_, (pss_cons (ps_set (i := 2) sc_check_signs.nd rfl (Or.inl rfl) (pe_prop (pv 0) c.c_Calendar c.p_Calendar_signs (ok_Calendar_signs c) (hr.mono (by decide)) (b_Calendar_signs c) .nil passL rfl))
      (pss_one (ps_for (passes_of rfl) rfl (pi_range1 rfl c.z_range (pa_cons (pe_callB call_len_str (by rfl) c.z_len (by decide +kernel) (pa_cons (pv 1) pa_nil)) pa_nil)) (pg_name (i := 3) sc_check_signs.nd rfl (Or.inl rfl)) (pss_cons (ps_if (pt_cmpR op_ninSg (pe_ix ix_str (pv 1) (pv 3) (fun _ _ => rfl)) (pv 2) rfl) (pss_one (ps_raise rfl (takes_of rfl rfl rfl rfl) (pmk_oex c.ox_BadSigns c.oi_BadSigns c.ot_BadSigns (ok_BadSigns_init c) (hr.mono (by decide)) (b_BadSigns_init c) .nil passL rfl c.g_BadSigns (pa_cons (pv 3) pa_nil)))) pss_nil)
      (pss_one (ps_if (PW.pt (pw_and (pt_cmpR op_gt (pv 3) pe_int (nomark _)) (pw_and1 (pt_cmpR op_leS (pe_ix ix_str (pv 1) (pv 3) (fun _ _ => rfl)) (pe_ix ix_str (pv 1) (pe_op op_sub (pv 3) pe_int) (fun _ _ => rfl)) (nomark _))))) (pss_one (ps_raise rfl (takes_of rfl rfl rfl rfl) (pmk_oex c.ox_BadSigns c.oi_BadSigns c.ot_BadSigns (ok_BadSigns_init c) (hr.mono (by decide)) (b_BadSigns_init c) .nil passL rfl c.g_BadSigns (pa_cons (pv 3) pa_nil)))) pss_nil)))))), ?_⟩)
  · obtain ⟨a, ws, t, rfl, ha, hws, hz, hQ, hE⟩ := h
    rfl
  obtain ⟨a, ws, t, rfl, ha, hws, hz, hQ, hE⟩ := h
  walk_at "wp"
  refine ha.prop ⟨a, ws, rfl, ha, hws, fun H1 hx1 => ?_⟩
  refine ⟨szI, by omega, by omega, ?_⟩
  refine lp_rng (fun i σ' H' => ∃ y, σ' = [some (.ref a), some (.str (tx t)), some (.str (tx (signsOf ws))), y] ∧ H' = H1 ∧ ((List.range t.length).take i).find? (badSg ws t) = none) ⟨none, rfl, rfl, rfl⟩ ?_ ?_
  · rintro i σ' H' hi ⟨y, rfl, rfl, hn⟩
    have hi' : i < t.length := by simpa using hi
    obtain ⟨f1, f2⟩ := find_step (xs := List.range t.length) (i := i) (x := i) (by simp [hi']) hn
    walk_at "wp"
    refine ixS_t i rfl hi' (by omega) ?_
    walk_at "wp"
    split <;> rename_i h
    · walk_at "wp"
      exact mko1 ((hE i (f1 (badSg_t fun z => h z.1))).mono hx1)
    · have h' : t.getD i 0 ∈ signsOf ws := Decidable.not_not.mp h
      walk_at "wp"
      split <;> rename_i h2
      · have hi0 : 0 < i := by simpa using h2
        refine ixS_t i rfl hi' (by omega) ?_
        walk_at "wp"
        refine ixS_t (i - 1) (by omega) (by omega) (by omega) ?_
        walk_at "wp"
        simp only [one_lt]
        split <;> rename_i h3
        · walk_at "wp"
          exact mko1 ((hE i (f1 (badSg_t fun z => h3 (z.2.resolve_left (by omega))))).mono hx1)
        · exact f2 (badSg_f.mpr ⟨h', .inr (Decidable.not_not.mp h3)⟩)
      · exact f2 (badSg_f.mpr ⟨h', .inl (by omega)⟩)
  · rintro σ' H' ⟨y, rfl, rfl, hn⟩
    have : badAt ws t = none := by
      unfold badAt
      rw [← hn]
      congr 1
      simp
    exact hQ this _ hx1
def sp_check_inside (K : Frag) : Sp := fun vs H Q E => ∃ (a : Addr) (t : Tr) (b e : Int), vs = [.ref a, .int b, .int e] ∧ SayAt K H a t ∧ t.size ≤ 1000 ∧ (outAt b e t = none → ∀ H', Ex H H' → Q .non H') ∧ (∀ p, outAt b e t = some p → Xw E (gA K "OutOfWindow") [("end", .int p.2), ("begin", .int p.1)] H)
theorem sc_check_inside : FnScope ["saying", "begin", "end", "first", "last"] ["saying", "begin", "end"] (defScope s_check_inside) := ⟨rfl, rfl, rfl, by decide +kernel, rfl, by decide +kernel, by decide +kernel⟩
theorem b_check_inside {K : Frag} {mg : Str → Option Value} (c : Wd K mg) : Binds K (fdOf K (gA K "check_inside")) ["saying", "begin", "end"] [] := c.f_check_inside.binds (fun _ _ _ _ _ _ us hl => match us, hl with | [_, _, _], _ => rfl)
theorem ok_check_inside {P : Program} {w : World} {K : Frag} {mg : Str → Option Value} {base : Heap} (c : Wd K mg) : FnOk P w K mg base (L2.CX P w) 3 (gA K "check_inside") (fdOf K (gA K "check_inside")) ["saying", "begin", "end"] (sp_check_inside K) := by
  refine c.f_check_inside.okX sc_check_inside (fun vs H Q E h => ?_) (fun cdv A outer s H vs Q E hr h => ⟨_, (pss_one (ps_for (passes_of rfl) rfl (pi_list (pe_meth0 (pv 0) c.c_Saying c.m_Saying_stretches (ok_Saying_stretches c) (hr.mono (by decide)) (b_Saying_stretches c) .nil passL)) (pg_tup (n := 2) rfl (pgs_cons (pg_name (i := 3) sc_check_inside.nd rfl (Or.inl rfl)) (pgs_cons (pg_name (i := 4) sc_check_inside.nd rfl (Or.inl rfl)) pgs_nil))) (pss_one (ps_if (PW.pt (pw_or (pt_cmpR op_lt (pv 3) (pv 1) (nomark _)) (pw_or1 (pt_cmpR op_gt (pv 4) (pv 2) (nomark _))))) (pss_one (ps_raise rfl (takes_of rfl rfl rfl rfl) (pmk_oex c.ox_OutOfWindow c.oi_OutOfWindow c.ot_OutOfWindow (ok_OutOfWindow_init c) (hr.mono (by decide)) (b_OutOfWindow_init c) .nil passL rfl c.g_OutOfWindow (pa_cons (pv 3) (pa_cons (pv 4) pa_nil))))) pss_nil)))), ?_⟩)
  · obtain ⟨a, t, b, e, rfl, ha, hz, hQ, hE⟩ := h
    rfl
  obtain ⟨a, t, b, e, rfl, ha, hz, hQ, hE⟩ := h
  walk_at "wp"
  refine ha.inst (by decide) ?_
  refine ⟨a, t, rfl, ha, hz, fun q H1 hq hx1 hR => ?_⟩
  obtain ⟨vs, hv1, hv2, hv3, hv4⟩ := hR.seq (K := K)
  refine ⟨q, rfl, ⟨vs, hv1⟩, ?_⟩
  refine lp_list (fun i σ' H' => ∃ x y, σ' = [some (.ref a), some (.int b), some (.int e), x, y] ∧ H' = H1 ∧ ((prs (post t)).take i).find? (outP b e) = none) ⟨_, _, rfl, rfl, rfl⟩ (fun i σ' H' _ ⟨_, _, _, h, _⟩ => h ▸ hv1) ?_ ?_
  · rintro i v σ' H' hi hv ⟨x, y, rfl, rfl, hn⟩
    obtain ⟨⟨b', e'⟩, a0, e1, rfl, e3⟩ := hv4 i v hv
    obtain ⟨f1, f2⟩ := find_step e1 hn
    walk_at "wp"
    refine ⟨_, Evl.st_of e3, rfl, _, _, rfl, _, _, rfl, rfl, ?_⟩
    walk_at "wp"
    split <;> rename_i h
    · walk_at "wp"
      exact mko2 ((hE _ (f1 (by simp [outP, h]))).mono hx1)
    · walk_at "wp"
      split <;> rename_i h2
      · walk_at "wp"
        exact mko2 ((hE _ (f1 (by simp [outP, h2]))).mono hx1)
      · exact f2 (by simp [outP]; omega)
  · rintro σ' H' ⟨x, y, rfl, rfl, hn⟩
    rw [hv3, List.take_length] at hn
    exact hQ hn _ hx1
end DR

set_option Elab.async false
set_option linter.all false
set_option maxRecDepth 100000
set_option maxHeartbeats 4000000
/-! the texts of at most three places, all of them -/
namespace DR
open PySem PySem.Spec PyProof.Rows L2
open PySem.W (Frag)
def cands : Nat → List (List Nat)
  | 0 => [[]]
  | n + 1 => (cands n).flatMap fun t => [97, 98, 99, 100].map fun c => t ++ [c]
@[irreducible] def allT (n : Nat) : List (List Nat) := (cands (n + 1)).filter okT
theorem mem_cands : ∀ (n : Nat) (t : List Nat), t.length = n → (∀ c ∈ t, 97 ≤ c ∧ c ≤ 100) → t ∈ cands n
  | 0, t, h, _ => by
    rw [List.length_eq_zero_iff] at h
    subst h
    exact List.mem_singleton.mpr rfl
  | n + 1, t, h, hc => by
    have hne : t ≠ [] := by rintro rfl; cases h
    have e := List.dropLast_concat_getLast hne
    rw [← e]
    refine List.mem_flatMap.mpr ⟨t.dropLast, mem_cands n _ (by simp [h]) (fun c hm => hc c (List.dropLast_subset _ hm)), List.mem_map.mpr ⟨t.getLast hne, ?_, rfl⟩⟩
    have := hc _ (List.getLast_mem hne)
    generalize t.getLast hne = c at this
    have : c = 97 ∨ c = 98 ∨ c = 99 ∨ c = 100 := by omega
    rcases this with rfl | rfl | rfl | rfl <;> decide
theorem mem_allT {n : Nat} {t : List Nat} (hn : n ≤ 3) (h : okT t = true) (hl : t.length = n + 1) : t ∈ allT n := by
  unfold allT
  refine List.mem_filter.mpr ⟨mem_cands _ _ hl fun c hc => ?_, h⟩
  obtain ⟨i, hi, rfl⟩ := List.getElem_of_mem hc
  have := (okT_iff.mp h).2.2 i hi
  have e : t.getD i 0 = t[i] := by rw [List.getD_eq_getElem?_getD, List.getElem?_eq_getElem hi]; rfl
  rw [e] at this
  have := usedAt_le t i
  omega
theorem allT_mem {n : Nat} {t : List Nat} (h : t ∈ allT n) : okT t = true ∧ t.length = n + 1 := by
  unfold allT at h
  obtain ⟨h1, h2⟩ := List.mem_filter.mp h
  refine ⟨h2, ?_⟩
  have key : ∀ (m : Nat) (t : List Nat), t ∈ cands m → t.length = m := by
    intro m
    induction m with
    | zero => intro t ht; rw [List.mem_singleton.mp ht]; rfl
    | succ m ih =>
      intro t ht
      obtain ⟨s, hs, ht⟩ := List.mem_flatMap.mp ht
      obtain ⟨c, _, rfl⟩ := List.mem_map.mp ht
      simp [ih s hs]
  exact key _ _ h1
/-- what holds of all products is told by the kernel -/
def mulAll (n : Nat) : Bool := (allT n).all fun s => (allT n).all fun t => decide (mulT s t ∈ allT n) && decide (lawCoatProduct s t = mulT s t)
theorem mulAll_ok : ∀ n, n ≤ 3 → mulAll n = true := by
  intro n hn
  match n, hn with
  | 0, _ => decide +kernel
  | 1, _ => decide +kernel
  | 2, _ => decide +kernel
  | 3, _ => decide +kernel
theorem mul_in {n : Nat} {s t : List Nat} (hn : n ≤ 3) (hs : s ∈ allT n) (ht : t ∈ allT n) : mulT s t ∈ allT n ∧ lawCoatProduct s t = mulT s t := by
  have h := List.all_eq_true.mp (List.all_eq_true.mp (mulAll_ok n hn) s hs) t ht
  obtain ⟨h1, h2⟩ := He.ba h
  exact ⟨of_decide_eq_true h1, of_decide_eq_true h2⟩
theorem plain_in {n : Nat} (hn : n ≤ 3) : plainT n ∈ allT n := by
  match n, hn with
  | 0, _ => decide +kernel
  | 1, _ => decide +kernel
  | 2, _ => decide +kernel
  | 3, _ => decide +kernel
theorem allT_len {n : Nat} (hn : n ≤ 3) : (allT n).length ≤ 15 := by
  match n, hn with
  | 0, _ => decide +kernel
  | 1, _ => decide +kernel
  | 2, _ => decide +kernel
  | 3, _ => decide +kernel
theorem nodup_le {α : Type} [DecidableEq α] : ∀ {l m : List α}, l.Nodup → (∀ x ∈ l, x ∈ m) → l.length ≤ m.length
  | [], _, _, _ => Nat.zero_le _
  | x :: r, m, hn, h => by
    have hx := h x List.mem_cons_self
    have h1 : r.length ≤ (m.erase x).length := nodup_le (List.nodup_cons.mp hn).2 fun y hy => by
      refine (List.mem_erase_of_ne ?_).mpr (h y (List.mem_cons_of_mem _ hy))
      rintro rfl
      exact (List.nodup_cons.mp hn).1 hy
    rw [List.length_erase_of_mem hx] at h1
    have := List.length_pos_of_mem hx
    simp only [List.length_cons]
    omega
theorem fin_le {n : Nat} (hn : n ≤ 3) {l : List (List Nat)} (h : l.Nodup) (hm : ∀ t ∈ l, t ∈ allT n) : l.length ≤ 15 := Nat.le_trans (nodup_le h hm) (allT_len hn)
/-! kinds, as the program finds them -/
abbrev CkS := List (List Nat) × List (List Nat)
def ckSg (turn : Nat) (s : CkS) (x : Nat × List Nat) : CkS :=
  if mulT (s.1.getD turn []) x.2 ∈ s.1 then s else (s.1 ++ [mulT (s.1.getD turn []) x.2], s.2 ++ [s.2.getD turn [] ++ [x.1]])
def ckTurn (items : List (Nat × List Nat)) (s : CkS) (turn : Nat) : CkS := if turn < s.1.length then items.foldl (ckSg turn) s else s
@[irreducible] def ckAt (n : Nat) (items : List (Nat × List Nat)) (i : Nat) : CkS := rf i (ckTurn items) ([plainT n], [[]])
theorem ckAt_zero {n : Nat} {items : List (Nat × List Nat)} : ckAt n items 0 = ([plainT n], [[]]) := by unfold ckAt; rfl
theorem ckAt_succ {n i : Nat} {items : List (Nat × List Nat)} : ckAt n items (i + 1) = ckTurn items (ckAt n items i) i := by unfold ckAt; exact rf_succ
def ckK (n : Nat) (items : List (Nat × List Nat)) : List (List Nat) := (ckAt n items 16).1
def ckP (n : Nat) (items : List (Nat × List Nat)) : List (List Nat) := (ckAt n items 16).2
/-- a good state -/
structure CkOk (n : Nat) (s : CkS) : Prop where
  nd : s.1.Nodup
  tx : ∀ t ∈ s.1, t ∈ allT n
  len : s.2.length = s.1.length
  pos : 1 ≤ s.1.length
  pg : ∀ k, (s.2.getD k []).length ≤ k
theorem getD_mem {α : Type} {l : List α} {i : Nat} {d : α} (h : i < l.length) : l.getD i d ∈ l := by
  rw [List.getD_eq_getElem?_getD, List.getElem?_eq_getElem h]
  exact List.getElem_mem h
theorem CkOk.sg {n turn : Nat} {s : CkS} {x : Nat × List Nat} (hn : n ≤ 3) (h : CkOk n s) (ht : turn < s.1.length) (hx : x.2 ∈ allT n) : CkOk n (ckSg turn s x) ∧ s.1.length ≤ (ckSg turn s x).1.length := by
  unfold ckSg
  split
  · exact ⟨h, Nat.le_refl _⟩
  · rename_i hm
    refine ⟨⟨?_, ?_, ?_, ?_, fun k => ?_⟩, ?_⟩
    · exact List.nodup_append.mpr ⟨h.nd, by simp, fun a ha b hb => by rw [List.mem_singleton] at hb; subst hb; rintro rfl; exact hm ha⟩
    · intro t h2
      rcases List.mem_append.mp h2 with h2 | h2
      · exact h.tx t h2
      · rw [List.mem_singleton] at h2
        subst h2
        exact (mul_in hn (h.tx _ (getD_mem ht)) hx).1
    · simp [h.len]
    · simp
    · have h1 := h.pg turn
      have h2 := h.pg k
      have h3 := h.len
      by_cases hk : k < s.2.length
      · rw [List.getD_eq_getElem?_getD, List.getElem?_append_left hk, ← List.getD_eq_getElem?_getD]
        exact h2
      · rw [List.getD_eq_getElem?_getD, List.getElem?_append_right (by omega)]
        by_cases hk2 : k - s.2.length = 0
        · rw [hk2]
          simp only [List.getElem?_cons_zero, Option.getD_some, List.length_append, List.length_singleton]
          omega
        · rw [List.getElem?_eq_none (by simp; omega)]
          exact Nat.zero_le _
    · simp
theorem CkOk.sgs {n turn : Nat} (hn : n ≤ 3) : ∀ (items : List (Nat × List Nat)) (s : CkS), CkOk n s → turn < s.1.length → (∀ x ∈ items, x.2 ∈ allT n) → CkOk n (items.foldl (ckSg turn) s) ∧ s.1.length ≤ (items.foldl (ckSg turn) s).1.length
  | [], s, h, _, _ => ⟨h, Nat.le_refl _⟩
  | x :: r, s, h, ht, hx => by
    obtain ⟨h1, h2⟩ := h.sg hn ht (hx x List.mem_cons_self)
    obtain ⟨h3, h4⟩ := CkOk.sgs (turn := turn) hn r (ckSg turn s x) h1 (by omega) fun y hy => hx y (List.mem_cons_of_mem _ hy)
    exact ⟨h3, by simp only [List.foldl_cons]; omega⟩
theorem CkOk.at {n : Nat} {items : List (Nat × List Nat)} (hn : n ≤ 3) (hx : ∀ x ∈ items, x.2 ∈ allT n) (i : Nat) : CkOk n (ckAt n items i) := by
  induction i with
  | zero => rw [ckAt_zero]; exact ⟨by simp, fun t ht => by rw [List.mem_singleton.mp ht]; exact plain_in hn, rfl, Nat.le_refl _, fun k => by cases k <;> simp⟩
  | succ i ih =>
    rw [ckAt_succ]
    generalize ckAt n items i = s at ih ⊢
    unfold ckTurn
    split
    · rename_i h
      exact (CkOk.sgs hn items s ih h hx).1
    · exact ih
theorem CkOk.le {n : Nat} {s : CkS} (hn : n ≤ 3) (h : CkOk n s) : s.1.length ≤ 15 := fin_le hn h.nd h.tx
/-- where the turns end, the state stays -/
theorem ck_stay {n : Nat} {items : List (Nat × List Nat)} {i : Nat} (h : (ckAt n items i).1.length ≤ i) : ∀ j, ckAt n items (i + j) = ckAt n items i := by
  intro j
  induction j with
  | zero => rfl
  | succ j ih =>
    have e : ckAt n items (i + (j + 1)) = ckTurn items (ckAt n items (i + j)) (i + j) := ckAt_succ
    rw [e, ih]
    unfold ckTurn
    rw [if_neg (by omega)]
theorem ck_end {n : Nat} {items : List (Nat × List Nat)} {i : Nat} (hi : i ≤ 16) (h : (ckAt n items i).1.length ≤ i) : ckAt n items 16 = ckAt n items i := by
  have := ck_stay h (16 - i)
  rwa [show i + (16 - i) = 16 by omega] at this
end DR

set_option Elab.async false
set_option linter.all false
set_option maxRecDepth 100000
set_option maxHeartbeats 4000000
/-! tables of texts, lists of coats -/
namespace DR
open PySem PySem.Spec PyProof.Rows L2
open PySem.W (Frag)
/-- lists and tables: what may be filled -/
def isM (o : HO) : Prop := (∃ xs, o = .lst xs) ∨ ∃ kvs, o = .dK kvs
theorem isM.l {xs : List V} : isM (.lst xs) := .inl ⟨xs, rfl⟩
theorem isM.d {kvs : List (Key × V)} : isM (.dK kvs) := .inr ⟨kvs, rfl⟩
section
variable {K : Frag} {H H' : Hp} {p q a b : Addr} {o o' : HO} {Q : VK}
theorem SqT.updM {ts : List V} (hq : H q = some o) (hm : isM o) (h : SqT K H p ts) : SqT K (upd H q o') p ts := by
  rcases h with (h | ⟨u, h⟩) | h
  · exact .inl (.inl (by rw [upd_ne (fun e => by rw [e, hq] at h; rcases hm with ⟨_, rfl⟩ | ⟨_, rfl⟩ <;> cases h)]; exact h))
  · exact .inl (.inr ⟨u, by rw [upd_ne (fun e => by rw [e, hq] at h; rcases hm with ⟨_, rfl⟩ | ⟨_, rfl⟩ <;> cases h)]; exact h⟩)
  · exact .inr h
theorem CoatAt.updM {t : List Nat} (hq : H q = some o) (hm : isM o) (h : CoatAt K H a t) : CoatAt K (upd H q o') a t := by
  obtain ⟨dx, x, h1, h2⟩ := h
  exact ⟨dx, x, by rw [upd_ne (fun e => by rw [e, hq] at h1; rcases hm with ⟨_, rfl⟩ | ⟨_, rfl⟩ <;> cases h1)]; exact h1, SqT.updM hq hm h2⟩
def CoR (K : Frag) (H : Hp) (t : List Nat) (a : Addr) : Prop := CoatAt K H a t
theorem CoR.monoD : MonoD (CoR K) := fun H H' t a e h => CoatAt.monoD e h
theorem CoR.off : Off (CoR K) := fun H p o t a ps hp h => CoatAt.updM hp .l h
theorem RA.keep {α : Type} {R : Hp → α → Addr → Prop} {xs : List α} (h : RA R H p xs) (f : ∀ x a, R H x a → R H' x a) (e : H' p = H p) : RA R H' p xs := by
  obtain ⟨ps, h1, h2, h3⟩ := h
  exact ⟨ps, h1, by rw [e]; exact h2, fun q hq => f _ _ (h3 q hq)⟩
theorem RA.coUpd {ts : List (List Nat)} (h : RA (CoR K) H p ts) (hq : H q = some o) (hm : isM o) (hne : p ≠ q) : RA (CoR K) (upd H q o') p ts := h.keep (fun x a h => CoatAt.updM hq hm h) (upd_ne hne)
/-! tables whose keys are texts -/
def DkAt (H : Hp) (a : Addr) (ts : List (List Nat)) : Prop := ∃ kvs : List (Key × V), H a = some (.dK kvs) ∧ kvs.length ≤ ts.length ∧ ∀ t, (valV kvs (.inr (tx t))).isSome = decide (t ∈ ts)
def rDNin : R2 := fun y x H Q => ∃ a o, x = .ref a ∧ DGet H a y o ∧ Q (.bl (!o.isSome)) H
def rDIn : R2 := fun y x H Q => ∃ a o, x = .ref a ∧ DGet H a y o ∧ Q (.bl o.isSome) H
def rDPut (x y v : V) (H : Hp) (Q : Hp → Prop) : Prop := ∃ a H4, x = .ref a ∧ DPut H a y v H4 ∧ Q H4
theorem ap_dnin {ty td : TE} {σ : L2.St} : tDNotIn ty td σ H Q = ty σ H fun y H1 => td σ H1 fun x H2 => rDNin y x H2 Q := rfl
theorem ap_din {ty td : TE} {σ : L2.St} : tDIn ty td σ H Q = ty σ H fun y H1 => td σ H1 fun x H2 => rDIn y x H2 Q := rfl
theorem ap_dput {ty td tv : TE} {D : Ends} {σ : L2.St} : sDPut td ty tv D σ H = tv σ H fun v H1 => td σ H1 fun x H2 => ty σ H2 fun y H3 => rDPut x y v H3 (D.nx σ) := rfl
theorem ap_gfld {ta : TE} {f : Str} {v : V} {σ : L2.St} {Q : L2.St → Hp → Prop} : gFld K ta f v σ H Q = ta σ H fun x H2 => rSFld K f x v H2 (Q σ) := rfl
theorem dnin_ok {ts : List (List Nat)} {t : List Nat} (h : DkAt H a ts) (q : Q (.bl (!decide (t ∈ ts))) H) : rDNin (.str (tx t)) (.ref a) H Q := by
  obtain ⟨kvs, h1, _, h2⟩ := h
  exact ⟨a, valV kvs (.inr (tx t)), rfl, DGet.k (k := .inr (tx t)) h1, by rw [h2]; exact q⟩
theorem din_ok {ts : List (List Nat)} {t : List Nat} (h : DkAt H a ts) (q : Q (.bl (decide (t ∈ ts))) H) : rDIn (.str (tx t)) (.ref a) H Q := by
  obtain ⟨kvs, h1, _, h2⟩ := h
  exact ⟨a, valV kvs (.inr (tx t)), rfl, DGet.k (k := .inr (tx t)) h1, by rw [h2]; exact q⟩
theorem DkAt.put {ts : List (List Nat)} {t : List Nat} {kvs : List (Key × V)} {v : V} (h1 : kvs.length ≤ ts.length) (h2 : ∀ t, (valV kvs (.inr (tx t))).isSome = decide (t ∈ ts)) : (putK kvs (.inr (tx t)) v).length ≤ (ts ++ [t]).length ∧ ∀ s, (valV (putK kvs (.inr (tx t)) v) (.inr (tx s))).isSome = decide (s ∈ ts ++ [t]) := by
  refine ⟨?_, fun s => ?_⟩
  · have := length_putK kvs (.inr (tx t)) v
    rw [List.length_append, List.length_singleton]
    omega
  · rw [valV_put]
    have : ((Sum.inr (tx s) : Key) = Sum.inr (tx t)) ↔ s = t := by rw [Sum.inr.injEq, tx_inj]
    simp only [this, List.mem_append, List.mem_singleton]
    split <;> rename_i e
    · simp [e]
    · rw [h2]
      simp [e]
theorem dput_ok {ts : List (List Nat)} {t : List Nat} {v : V} {Qh : Hp → Prop} (h : DkAt H a ts) (hz : ts.length ≤ 50000) (q : ∀ o, isM o → ∀ o0, isM o0 → H a = some o0 → DkAt (upd H a o) a (ts ++ [t]) → Qh (upd H a o)) : rDPut (.ref a) (.str (tx t)) v H Qh := by
  obtain ⟨kvs, h1, h3, h2⟩ := h
  refine ⟨a, _, rfl, DPut.k (k := .inr (tx t)) h1 (szL (by omega)), q _ .d _ .d h1 ?_⟩
  exact ⟨_, upd_same, DkAt.put h3 h2⟩
theorem DkAt.mono {ts : List (List Nat)} (e : Ex H H') (h : DkAt H a ts) : DkAt H' a ts := by
  obtain ⟨kvs, h1, h3, h2⟩ := h
  exact ⟨kvs, e _ _ h1, h3, h2⟩
theorem DkAt.upd {ts : List (List Nat)} (h : DkAt H a ts) (hne : a ≠ q) : DkAt (upd H q o') a ts := by
  obtain ⟨kvs, h1, h3, h2⟩ := h
  exact ⟨kvs, by rw [upd_ne hne]; exact h1, h3, h2⟩
theorem DkAt.nil : DkAt (L2.upd H a (.dK [])) a [] := ⟨[], upd_same, Nat.le_refl _, fun t => rfl⟩
theorem valV_one (t s : List Nat) (v : V) : (valV (mergeK [] [((Sum.inr (tx t) : Key), v)]) (.inr (tx s))).isSome = decide (s ∈ [t]) := (DkAt.put (kvs := []) (ts := []) (t := t) (v := v) (Nat.le_refl _) (fun _ => rfl)).2 s
/-! own operators of coats -/
theorem mulC {mg : Str → Option Value} {s t : List Nat} {E : XK} (ha : CoatAt K H a s) (hb : CoatAt K H b t) (hl : s.length = t.length) (hz : s.length ≤ 6) (hk : okT (mulT s t) = true) (q : ∀ p H', H p = none → Ex H H' → CoatAt K H' p (mulT s t) → Q (.ref p) H') :
    rOwn2 (gA K "Coat") (sp_Coat_mul K) E (.ref a) (.ref b) H Q := by
  obtain ⟨dx, x, h1, h2⟩ := id ha
  obtain ⟨dy, y, h3, h4⟩ := id hb
  exact ⟨a, b, dx, dy, _, _, rfl, rfl, h1, h3, a, b, s, t, rfl, ha, hb, hl, hz, hk, q⟩
theorem eqC {s t : List Nat} {E : XK} (ha : CoatAt K H a s) (hb : CoatAt K H b t) (q : Q (.bl (decide (s = t))) H) : rOwn2 (gA K "Coat") (sp_Coat_eq K) E (.ref a) (.ref b) H Q := by
  obtain ⟨dx, x, h1, h2⟩ := id ha
  obtain ⟨dy, y, h3, h4⟩ := id hb
  exact ⟨a, b, dx, dy, _, _, rfl, rfl, h1, h3, a, b, s, t, rfl, ha, hb, q⟩
end
end DR

set_option Elab.async false
set_option linter.all false
set_option maxRecDepth 100000
set_option maxHeartbeats 4000000
namespace DR
open PySem PySem.Spec PyProof.Rows L2
open PySem.W (Frag)
local macro_rules
  | `(tactic| walk_at "wp") => `(tactic| try simp only [L2.start, List.map_cons, List.map_nil, List.length_cons, List.length_nil, List.replicate, Nat.reduceAdd, Nat.reduceSub, List.cons_append, List.nil_append, List.append_nil, List.set_cons_succ, List.set_cons_zero,
      List.getElem?_cons_succ, List.getElem?_cons_zero, ap_K1, ap_K2, ap_seq, ap_next, ap_asg, ap_name, ap_ret, ap_retN, ap_drop, ap_ifS, ap_c, ap_var, ap_op, ap_un, ap_chain, ap_test, ap_B, ap_and, ap_or, ap_not, ap_yes, ap_andV, ap_orV, ap_notV, ap_if, ap_nil, ap_cons, ap_cb, ap_lst, ap_tup, ap_bm, ap_bm0, ap_m1, ap_call, ap_sl, ap_part, ap_nopart, ap_rI0, ap_rI, ap_rU, ap_eqI, ap_neI, ap_eqS, ap_neS, ap_eqB, ap_neB, ap_fld, ap_tup_, ap_gcons, ap_gnil, ap_gsub, ap_for, ap_lc, ap_rng1, ap_rng2, ap_list, ap_itup, ap_str, ap_enum, ap_zip, ap_inSg, ap_ninSg, ap_addS, ap_sfld, ap_meth, ap_prop, ap_make, ap_smeth, ap_never, ap_ost, ap_callS, ap_mko, ap_enumS, ap_zipS, ap_rng3, ap_listRg, ap_dnin, ap_din, ap_dput, ap_gfld,  ap_leS, lit_alpha, tg1, tg2, tg3, tg4, tg5, tg6, eq_self, ap_revL,  ap_rg1, ap_cval, len_abcdef, exists_and_left, exists_and_right, exists_eq_left', and_assoc, exists_eq_left, exists_eq, exists_eq', Option.some.injEq, V.int.injEq, V.str.injEq, V.ref.injEq, V.bl.injEq, V.ty.injEq, List.cons.injEq, and_true, true_and, decide_eq_true_eq, Bool.not_eq_true', decide_eq_false_iff_not, Bool.false_eq_true, if_true, if_false, reduceCtorEq, false_and, and_false, or_false, false_or, or_true, true_or, not_true_eq_false, not_false_eq_true, Int.zero_add, lit_nil, lit_a, tx_len, one_tx, tx_app, tx_inj, exists_const, forall_const])
  | `(tactic| walk_at "om") => `(tactic| repeat (refine ⟨by first | omega | exact szI, ?_⟩))

def sp_closed_kinds (K : Frag) : Sp := fun vs H Q _ => ∃ (n : Nat) (sg : List Nat) (w : Addr) (ws : List (List Nat)), vs = [.int n, .str (tx sg), .ref w] ∧ RA (CoR K) H w ws ∧ ws.length = sg.length ∧ n ≤ 3 ∧ sg.length ≤ 10 ∧ (∀ t ∈ ws, t ∈ allT n) ∧ ∀ p c g H', H p = none → Ex H H' → H' p = some (.tup [.ref c, .ref g]) → RA (CoR K) H' c (ckK n (sg.zip ws)) → H' g = some (.lst (sv (ckP n (sg.zip ws)))) → Q (.ref p) H'
theorem sc_closed_kinds : FnScope ["places", "signs", "sign_coats", "coats", "pages", "known", "turn", "sign", "worn", "longer"] ["places", "signs", "sign_coats"] (defScope s_closed_kinds) := ⟨rfl, rfl, rfl, by decide +kernel, rfl, by decide +kernel, by decide +kernel⟩
theorem b_closed_kinds {K : Frag} {mg : Str → Option Value} (c : Wd K mg) : Binds K (fdOf K (gA K "closed_kinds")) ["places", "signs", "sign_coats"] [] := c.f_closed_kinds.binds (fun _ _ _ _ _ _ us hl => match us, hl with | [_, _, _], _ => rfl)
theorem ok_closed_kinds {P : Program} {w : World} {K : Frag} {mg : Str → Option Value} {base : Heap} (c : Wd K mg) : FnOk P w K mg base (L2.CX P w) 5 (gA K "closed_kinds") (fdOf K (gA K "closed_kinds")) ["places", "signs", "sign_coats"] (sp_closed_kinds K) := by
  refine c.f_closed_kinds.okX sc_closed_kinds (fun vs H Q E h => ?_) (fun cdv A outer s H vs Q E hr h => ⟨_, PSs.nox (pss_cons (ps_set (i := 3) sc_closed_kinds.nd rfl (Or.inl rfl) (pe_lst (pa_cons (pe_smeth (pe_cls rfl c.g_Coat) c.s_Coat_plain (ok_Coat_plain c) (hr.mono (by decide)) (b_Coat_plain c) passL (pa_cons (pv 0) pa_nil)) pa_nil)))
      (pss_cons (ps_set (i := 4) sc_closed_kinds.nd rfl (Or.inl rfl) (pe_lst (pa_cons pe_str pa_nil)))
      (pss_cons (ps_set (i := 5) sc_closed_kinds.nd rfl (Or.inl rfl) (pe_disp (pps_cons (pe_meth0 (pe_ix ix_list (pv 3) pe_int (fun _ _ => rfl)) c.c_Coat c.m_Coat_text (ok_Coat_text c) (hr.mono (by decide)) (b_Coat_text c) .nil passL) pe_bl pps_nil) (by rfl) (by rfl) (fun z => by cases z) (by decide)))
      (pss_cons (ps_set (i := 6) sc_closed_kinds.nd rfl (Or.inl rfl) pe_int)
      (pss_cons (ps_while PassesOwn.never (pt_cmpR op_lt (pv 6) (pe_callB call_lenV (by rfl) c.z_len (by decide +kernel) (pa_cons (pv 3) pa_nil)) (nomark _)) (pss_cons (ps_for PassesOwn.never rfl (pi_zipSL (by rfl) c.z_zip (pa_cons (pv 1) (pa_cons (pv 2) pa_nil))) (pg_tup (n := 2) rfl (pgs_cons (pg_name (i := 7) sc_closed_kinds.nd rfl (Or.inl rfl)) (pgs_cons (pg_name (i := 8) sc_closed_kinds.nd rfl (Or.inl rfl)) pgs_nil))) (pss_cons (ps_set (i := 9) sc_closed_kinds.nd rfl (Or.inl rfl) (pe_op (op_own2n (m := "__mul__") (by decide +kernel) (ok_Coat_mul c) (hr.mono (by decide)) (b_Coat_mul c) passL c.sf_Coat c.m_Coat_mul) (pe_ix ix_list (pv 3) (pv 6) (fun _ _ => rfl)) (pv 8)))
      (pss_one (ps_if (pt_cmp (pc_dnotin (hu_of hr) (pe_meth0 (pv 9) c.c_Coat c.m_Coat_text (ok_Coat_text c) (hr.mono (by decide)) (b_Coat_text c) .nil passL) (pv 5))) (pss_cons (ps_dput (hu_of hr) (pv 5) (pe_meth0 (pv 9) c.c_Coat c.m_Coat_text (ok_Coat_text c) (hr.mono (by decide)) (b_Coat_text c) .nil passL) pe_bl rfl)
      (pss_cons (ps_expr (pe_bm PySem.F.plainAttrs_list PySem.F.slot_list_append PySem.F.type_list_append mt_append (pv 3) (pa_cons (pv 9) pa_nil)))
      (pss_one (ps_expr (pe_bm PySem.F.plainAttrs_list PySem.F.slot_list_append PySem.F.type_list_append mt_append (pv 4) (pa_cons (pe_op op_addS (pe_ix ix_list (pv 4) (pv 6) (fun _ _ => rfl)) (pv 7)) pa_nil)))))) pss_nil))))
      (pss_one (ps_set (i := 6) sc_closed_kinds.nd rfl (Or.inl rfl) (pe_op op_add (pv 6) pe_int)))))
      (pss_one (ps_ret (pe_tup (pa_cons (pv 3) (pa_cons (pv 4) pa_nil)))))))))), ?_⟩)
  · obtain ⟨n, sg, w0, ws, rfl, hW, hwl, hn, hsg, hws, hQ⟩ := h
    rfl
  obtain ⟨n, sg, w0, ws, rfl, hW, hwl, hn, hsg, hws, hQ⟩ := h
  walk_at "wp"
  refine ⟨n, rfl, by omega, (allT_mem (plain_in hn)).1, fun p H1 hp hx1 hp1 => ⟨szI, fun C hC => ⟨szI, fun P' hP => ?_⟩⟩⟩
  have hCP : P' ≠ C := by rintro rfl; rw [upd_same] at hP; cases hP
  have hx2 := hx1.trans ((Evl.Ex.new (o := .lst [.ref p]) hC).trans (Evl.Ex.new (o := .lst [.str (tx [])]) hP))
  intro D hD
  unfold tPairs tPairs
  walk_at "wp"
  have hDC : D ≠ C := by rintro rfl; rw [upd_ne (Ne.symm hCP), upd_same] at hD; cases hD
  have hDP : D ≠ P' := by rintro rfl; rw [upd_same] at hD; cases hD
  have hx3 := hx2.trans (Evl.Ex.new (o := .dK []) hD)
  have hC0 := upd_same (H := H1) (a := C) (o := .lst [.ref p])
  have hC3 : upd (upd (upd H1 C (.lst [.ref p])) P' (.lst [.str (tx [])])) D (.dK []) C = some (.lst [.ref p]) := by rw [upd_ne (Ne.symm hDC), upd_ne (Ne.symm hCP), upd_same]
  have hP3 : upd (upd (upd H1 C (.lst [.ref p])) P' (.lst [.str (tx [])])) D (.dK []) P' = some (.lst [.str (tx [])]) := by rw [upd_ne (Ne.symm hDP), upd_same]
  have hp3 : CoatAt K (upd (upd (upd H1 C (.lst [.ref p])) P' (.lst [.str (tx [])])) D (.dK [])) p (plainT n) := CoatAt.mono ((Evl.Ex.new (o := .lst [.ref p]) hC).trans ((Evl.Ex.new (o := .lst [.str (tx [])]) hP).trans (Evl.Ex.new (o := .dK []) hD))) hp1
  have hCH : H C = none := Evl.fresh_back hx1 hC
  have hPH : H P' = none := Evl.fresh_back (hx1.trans (Evl.Ex.new (o := .lst [.ref p]) hC)) hP
  have hDH : H D = none := Evl.fresh_back hx2 hD
  have hD3 := upd_same (H := upd (upd H1 C (.lst [.ref p])) P' (.lst [.str (tx [])])) (a := D) (o := .dK [])
  revert hx3 hC3 hP3 hp3 hD3
  generalize upd (upd (upd H1 C (.lst [.ref p])) P' (.lst [.str (tx [])])) D (.dK []) = H3
  intro hx3 hC3 hP3 hp3 hD3
  refine ixL_v 0 (Evl.sq_of hC3) rfl rfl ?_
  refine hp3.inst (by decide) (by decide) ⟨p, plainT n, rfl, hp3, hD3, [(.inr (tx (plainT n)), .bl true)], rfl, by simp, ?_⟩
  have hx4 := hx3.mut (o := .dK (mergeK [] [((Sum.inr (tx (plainT n)) : Key), V.bl true)])) hDH
  have hD4 : DkAt (upd H3 D (.dK (mergeK [] [((Sum.inr (tx (plainT n)) : Key), V.bl true)]))) D [plainT n] := ⟨_, upd_same, Nat.le_refl _, fun s => valV_one _ s _⟩
  have hC4 : RA (CoR K) (upd H3 D (.dK (mergeK [] [((Sum.inr (tx (plainT n)) : Key), V.bl true)]))) C [plainT n] := ⟨[(plainT n, p)], rfl, by rw [upd_ne (Ne.symm hDC)]; exact hC3, fun q hq => by rw [List.mem_singleton] at hq; subst hq; exact hp3.updM hD3 .d⟩
  have hP4 : upd H3 D (.dK (mergeK [] [((Sum.inr (tx (plainT n)) : Key), V.bl true)])) P' = some (.lst (sv [[]])) := by rw [upd_ne (Ne.symm hDP)]; exact hP3
  revert hx4 hD4 hC4 hP4
  generalize upd H3 D (.dK (mergeK [] [((Sum.inr (tx (plainT n)) : Key), V.bl true)])) = H4
  intro hx4 hD4 hC4 hP4
  have hitems : ∀ x ∈ sg.zip ws, x.2 ∈ allT n := fun x hx => hws _ (List.of_mem_zip hx).2
  have ok := CkOk.at hn hitems
  refine ⟨fun m σ' H' => ∃ i x y z, σ' = [some (.int n), some (.str (tx sg)), some (.ref w0), some (.ref C), some (.ref P'), some (.ref D), some (.int (i : Nat)), x, y, z] ∧ Ex H H' ∧ RA (CoR K) H' C (ckAt n (sg.zip ws) i).1 ∧ H' P' = some (.lst (sv (ckAt n (sg.zip ws) i).2)) ∧ DkAt H' D (ckAt n (sg.zip ws) i).1 ∧ i ≤ (ckAt n (sg.zip ws) i).1.length ∧ m = 16 - i,
    ⟨_, 0, _, _, _, rfl, hx4, by rw [ckAt_zero]; exact hC4, by rw [ckAt_zero]; exact hP4, by rw [ckAt_zero]; exact hD4, Nat.zero_le _, rfl⟩, ?_⟩
  rintro m σ' H' ⟨i, x, y, z, rfl, hx, hC', hP', hD', hi, rfl⟩
  have hok := ok i
  have hle := hok.le hn
  walk_at "wp"
  refine hC'.len rfl ?_
  walk_at "wp"
  split <;> rename_i h
  · have hlt : i < (ckAt n (sg.zip ws) i).1.length := by omega
    obtain ⟨vs, hv1, hv2, hv3, hv4⟩ := hW.seq (K := K)
    refine ⟨_, fun σ2 H2 z => z, ?_⟩
    walk_at "wp"
    refine ⟨⟨_, Evl.ex_l hx hv1⟩, ?_⟩
    refine lp_it (walk_zipS (b := w0) (ys := vs) (by rw [hv3, hwl])) (fun j σ' H' => ∃ x y z, σ' = [some (.int n), some (.str (tx sg)), some (.ref w0), some (.ref C), some (.ref P'), some (.ref D), some (.int (i : Nat)), x, y, z] ∧ Ex H H' ∧ RA (CoR K) H' C (((sg.zip ws).take j).foldl (ckSg i) (ckAt n (sg.zip ws) i)).1 ∧ H' P' = some (.lst (sv (((sg.zip ws).take j).foldl (ckSg i) (ckAt n (sg.zip ws) i)).2)) ∧ DkAt H' D (((sg.zip ws).take j).foldl (ckSg i) (ckAt n (sg.zip ws) i)).1)
      ⟨_, _, _, rfl, hx, hC', hP', hD'⟩ (fun j σ' H' _ ⟨_, _, _, _, e, _⟩ => Evl.ex_l e hv1) ?_ ?_
    · rintro j v σ' H5 H6 hj ⟨x', y', z', rfl, hx5, hC5, hP5, hD5⟩ ⟨T, yv, rfl, hT, rfl, hyv⟩
      obtain ⟨wt, wa, g1, rfl, g2⟩ := hv4 j yv hyv
      have hit : (sg.zip ws)[j]? = some (sg.getD j 0, wt) := by
        rw [List.getElem?_zip_eq_some]
        exact ⟨by rw [List.getD_eq_getElem?_getD, List.getElem?_eq_getElem hj]; rfl, g1⟩
      have hst : ((sg.zip ws).take (j + 1)).foldl (ckSg i) (ckAt n (sg.zip ws) i) = ckSg i (((sg.zip ws).take j).foldl (ckSg i) (ckAt n (sg.zip ws) i)) (sg.getD j 0, wt) := by
        rw [List.take_add_one, hit, List.foldl_append]
        rfl
      obtain ⟨ok5, le5⟩ := CkOk.sgs (turn := i) hn ((sg.zip ws).take j) _ hok hlt (fun x hx => hitems x (List.mem_of_mem_take hx))
      simp only [hst]
      have hxT := Evl.Ex.new (o := .tup [.str (tx [sg.getD j 0]), .ref wa]) hT
      have hC6 := hC5.mono CoR.monoD.to hxT
      have hP6 := hxT _ _ hP5
      have hD6 := hD5.mono hxT
      have hx6 := hx5.trans hxT
      have hT6 := upd_same (H := H5) (a := T) (o := .tup [.str (tx [sg.getD j 0]), .ref wa])
      revert hC6 hP6 hD6 hx6 hT6
      generalize upd H5 T (.tup [.str (tx [sg.getD j 0]), .ref wa]) = H6
      intro hC6 hP6 hD6 hx6 hT6
      revert ok5 le5 hC6 hP6 hD6
      generalize ((sg.zip ws).take j).foldl (ckSg i) (ckAt n (sg.zip ws) i) = s5
      intro ok5 le5 hC6 hP6 hD6
      have hlt5 : i < s5.1.length := by omega
      have hle5 := ok5.le hn
      have hwt : wt ∈ allT n := hws _ (List.mem_of_getElem? g1)
      walk_at "wp"
      refine ⟨_, Evl.st_of hT6, rfl, _, _, rfl, _, _, rfl, rfl, ?_⟩
      walk_at "wp"
      refine hC6.ix i rfl (List.getElem?_eq_getElem hlt5) fun ca hca => ?_
      walk_at "wp"
      have hsi : s5.1.getD i [] = s5.1[i] := by rw [List.getD_eq_getElem?_getD, List.getElem?_eq_getElem hlt5]; rfl
      have hti := ok5.tx _ (List.getElem_mem hlt5)
      have hmul := mul_in hn hti hwt
      refine mulC (mg := mg) hca (CoR.monoD.to _ _ _ _ hx6 g2) (by rw [(allT_mem hti).2, (allT_mem hwt).2]) (by rw [(allT_mem hti).2]; omega) (allT_mem hmul.1).1 fun r H7 hr hx7 hr7 => ?_
      have hC7 := hC6.mono CoR.monoD.to hx7
      have hP7 := hx7 _ _ hP6
      have hD7 := hD6.mono hx7
      have hx8 := hx6.trans hx7
      walk_at "wp"
      refine hr7.inst (by decide) (by decide) ⟨r, _, rfl, hr7, ?_⟩
      walk_at "wp"
      refine dnin_ok hD7 ?_
      walk_at "wp"
      unfold ckSg
      rw [hsi]
      split <;> rename_i hm
      · refine hr7.inst (by decide) (by decide) ⟨r, _, rfl, hr7, ?_⟩
        refine dput_ok hD7 (by omega) fun o ho o0 ho0 hDo hD8 => ?_
        have hC8 : RA (CoR K) (upd H7 D o) C s5.1 := hC7.coUpd hDo ho0 (Ne.symm hDC)
        have hr8 : CoatAt K (upd H7 D o) r (mulT s5.1[i] wt) := hr7.updM hDo ho0
        have hP8 : upd H7 D o P' = some (.lst (sv s5.2)) := by rw [upd_ne (Ne.symm hDP)]; exact hP7
        have hx9 := hx8.mut (o := o) hDH
        revert hC8 hr8 hP8 hx9 hD8
        generalize upd H7 D o = H8
        intro hD8 hC8 hr8 hP8 hx9
        walk_at "wp"
        obtain ⟨us, hu1, hu2, hu3⟩ := hC8.push CoR.off hr8
        refine ⟨tyL hu1, app_ok hu1 (by omega) ?_⟩
        have hP9 : upd H8 C (.lst (us ++ [.ref r])) P' = some (.lst (sv s5.2)) := by rw [upd_ne hCP]; exact hP8
        have hD9 := hD8.upd (o' := .lst (us ++ [.ref r])) (q := C) hDC
        have hxA := hx9.mut (o := .lst (us ++ [.ref r])) hCH
        revert hP9 hD9 hxA hu3
        generalize upd H8 C (.lst (us ++ [.ref r])) = H9
        intro hu3 hP9 hD9 hxA
        walk_at "wp"
        have hlt6 : i < s5.2.length := by rw [ok5.len]; exact hlt5
        refine ⟨tyL hP9, ixL_s i (Evl.sq_of hP9) rfl hlt6 ?_⟩
        have hpl := ok5.pg i
        walk_at "wp"
        refine ⟨szI, ?_⟩
        refine app_ok hP9 (by rw [sv_len, ok5.len]; omega) ?_
        exact ⟨hxA.mut hPH, hu3.coUpd hP9 .l (Ne.symm hCP), by rw [upd_same]; simp [sv], hD9.upd hDP⟩
      · have hm' : mulT s5.1[i] (sg.getD j 0, wt).2 ∈ s5.1 := Decidable.not_not.mp hm
        simp only [if_pos hm']
        exact ⟨hx8, hC7, hP7, hD7⟩
    · rintro σ' H5 ⟨x', y', z', rfl, hx5, hC5, hP5, hD5⟩
      walk_at "wp"
      have htk : (sg.zip ws).take sg.length = sg.zip ws := List.take_of_length_le (by simp [hwl])
      rw [htk] at hC5 hP5 hD5
      have hst : ckAt n (sg.zip ws) (i + 1) = (sg.zip ws).foldl (ckSg i) (ckAt n (sg.zip ws) i) := by
        rw [ckAt_succ]
        unfold ckTurn
        rw [if_pos]
        exact hlt
      rw [← hst] at hC5 hP5 hD5
      have hge : i + 1 ≤ (ckAt n (sg.zip ws) (i + 1)).1.length := by
        rw [hst]
        have := (CkOk.sgs (turn := i) hn (sg.zip ws) _ hok hlt hitems).2
        omega
      exact ⟨16 - (i + 1), by omega, i + 1, by simp, hx5, hC5, hP5, hD5, hge, rfl⟩
  · have hend := ck_end (n := n) (items := sg.zip ws) (i := i) (by omega) (by omega)
    walk_at "wp"
    refine ⟨szI, fun r hr => ?_⟩
    have hxr := Evl.Ex.new (o := .tup [.ref C, .ref P']) hr
    refine hQ r C P' _ (Evl.fresh_back hx hr) (hx.trans hxr) upd_same ?_ ?_
    · unfold ckK; rw [hend]; exact hC'.mono CoR.monoD.to hxr
    · unfold ckP; rw [hend]; exact hxr _ _ hP'
end DR

set_option Elab.async false
set_option linter.all false
set_option maxRecDepth 100000
set_option maxHeartbeats 4000000
/-! sets of places, steps of rows: all of them at most three places wide -/
namespace DR
open PySem PySem.Spec PyProof.Rows L2
open PySem.W (Frag)
instance dec_leB (b : List Int) : Decidable (leB b) := by unfold leB; exact inferInstance
instance dec_validS (P : Nat) (S : List Int) : Decidable (validS P S) := by unfold validS; exact inferInstance
def subs (n : Nat) : List (List Int) := (List.range (2 ^ n)).map (maskSet n)
theorem mem_subs {n : Nat} (hn : n ≤ 3) (p : Nat → Bool) : ((List.range n).filter p).map (fun i : Nat => (i : Int)) ∈ subs n := by
  match n, hn with
  | 0, _ => exact (show ([] : List Int) ∈ subs 0 by decide +kernel)
  | 1, _ =>
    have e : List.range 1 = [0] := rfl
    rw [e]
    cases h0 : p 0 <;> simp only [List.filter, h0] <;> decide +kernel
  | 2, _ =>
    have e : List.range 2 = [0, 1] := rfl
    rw [e]
    cases h0 : p 0 <;> cases h1 : p 1 <;> simp only [List.filter, h0, h1] <;> decide +kernel
  | 3, _ =>
    have e : List.range 3 = [0, 1, 2] := rfl
    rw [e]
    cases h0 : p 0 <;> cases h1 : p 1 <;> cases h2 : p 2 <;> simp only [List.filter, h0, h1, h2] <;> decide +kernel
theorem standsIn_subs {n : Nat} (hn : n ≤ 3) (ws : List (List Nat)) (ch : Nat) (b : Int) : standsIn ws ch b n ∈ subs n := mem_subs hn _
def entT (n : Nat) (S : List Int) : List Nat := textOfBefore (entryB n S)
def entAll (n : Nat) : Bool := (subs n).all fun S => decide (validS n S) && (decide (entT n S ∈ allT n) && decide (leB (entryB n S)))
theorem entAll_ok : ∀ n, n ≤ 3 → entAll n = true := by
  intro n hn
  match n, hn with
  | 0, _ => decide +kernel
  | 1, _ => decide +kernel
  | 2, _ => decide +kernel
  | 3, _ => decide +kernel
theorem ent_in {n : Nat} {S : List Int} (hn : n ≤ 3) (h : S ∈ subs n) : validS n S ∧ entT n S ∈ allT n ∧ leB (entryB n S) := by
  obtain ⟨h1, h2⟩ := He.ba (List.all_eq_true.mp (entAll_ok n hn) S h)
  obtain ⟨h2, h3⟩ := He.ba h2
  exact ⟨of_decide_eq_true h1, of_decide_eq_true h2, of_decide_eq_true h3⟩
def bfs (n : Nat) : List (List Int) := (allT n).map beforeOfText
def bfAll (n : Nat) : Bool := (bfs n).all fun b => decide (leB b) && (decide (textOfBefore b ∈ allT n) && (decide (beforeOfText (textOfBefore b) = b) && (subs n).all fun S => decide (stepBefore b S ∈ bfs n) && decide (textOfBefore (stepBefore b S) = mulT (textOfBefore b) (entT n S))))
theorem bfAll_ok : ∀ n, n ≤ 3 → bfAll n = true := by
  intro n hn
  match n, hn with
  | 0, _ => decide +kernel
  | 1, _ => decide +kernel
  | 2, _ => decide +kernel
  | 3, _ => decide +kernel
theorem bf_in {n : Nat} {b : List Int} (hn : n ≤ 3) (h : b ∈ bfs n) : leB b ∧ textOfBefore b ∈ allT n ∧ beforeOfText (textOfBefore b) = b := by
  obtain ⟨h1, h2⟩ := He.ba (List.all_eq_true.mp (bfAll_ok n hn) b h)
  obtain ⟨h2, h3⟩ := He.ba h2
  obtain ⟨h3, h4⟩ := He.ba h3
  exact ⟨of_decide_eq_true h1, of_decide_eq_true h2, of_decide_eq_true h3⟩
theorem bf_step {n : Nat} {b S : List Int} (hn : n ≤ 3) (h : b ∈ bfs n) (hS : S ∈ subs n) : stepBefore b S ∈ bfs n ∧ textOfBefore (stepBefore b S) = mulT (textOfBefore b) (entT n S) := by
  obtain ⟨h1, h2⟩ := He.ba (List.all_eq_true.mp (bfAll_ok n hn) b h)
  obtain ⟨h2, h3⟩ := He.ba h2
  obtain ⟨h3, h4⟩ := He.ba h3
  obtain ⟨h5, h6⟩ := He.ba (List.all_eq_true.mp h4 S hS)
  exact ⟨of_decide_eq_true h5, of_decide_eq_true h6⟩
theorem idB_in {n : Nat} (hn : n ≤ 3) : idB n ∈ bfs n ∧ textOfBefore (idB n) = plainT n := by
  match n, hn with
  | 0, _ => decide +kernel
  | 1, _ => decide +kernel
  | 2, _ => decide +kernel
  | 3, _ => decide +kernel
theorem pageB_in {n : Nat} (hn : n ≤ 3) (ws : List (List Nat)) (b : Int) (t : List Nat) (i : Nat) : pageB ws b n t i ∈ bfs n := by
  unfold pageB
  induction i with
  | zero => exact (idB_in hn).1
  | succ k ih => rw [rf_succ]; exact (bf_step hn ih (standsIn_subs hn _ _ _)).1
theorem pageT_in {n : Nat} (hn : n ≤ 3) (ws : List (List Nat)) (b : Int) (t : List Nat) : pageT ws b n t ∈ allT n ∧ leB (pageB ws b n t t.length) := ⟨(bf_in hn (pageB_in hn ws b t _)).2.1, (bf_in hn (pageB_in hn ws b t _)).1⟩
theorem signT_in {n : Nat} (hn : n ≤ 3) (ws : List (List Nat)) (ch : Nat) (b : Int) : validS n (standsIn ws ch b n) ∧ signT ws ch b n ∈ allT n ∧ leB (entryB n (standsIn ws ch b n)) := ent_in hn (standsIn_subs hn ws ch b)
/-- a page and one sign more -/
theorem pageT_snoc {n : Nat} (hn : n ≤ 3) (ws : List (List Nat)) (b : Int) (t : List Nat) (ch : Nat) : pageT ws b n (t ++ [ch]) = mulT (pageT ws b n t) (signT ws ch b n) := by
  have h0 : ∀ i, i ≤ t.length → pageB ws b n (t ++ [ch]) i = pageB ws b n t i := by
    intro i hi
    unfold pageB
    induction i with
    | zero => rfl
    | succ k ih =>
      rw [rf_succ, rf_succ, ih (by omega)]
      congr 2
      rw [List.getD_eq_getElem?_getD, List.getElem?_append_left (by omega), ← List.getD_eq_getElem?_getD]
  unfold pageT
  rw [List.length_append, List.length_singleton]
  have e : pageB ws b n (t ++ [ch]) (t.length + 1) = stepBefore (pageB ws b n t t.length) (standsIn ws ch b n) := by
    have : pageB ws b n (t ++ [ch]) (t.length + 1) = stepBefore (pageB ws b n (t ++ [ch]) t.length) (standsIn ws ((t ++ [ch]).getD t.length 0) b n) := by
      unfold pageB
      rw [rf_succ]
    rw [this, h0 _ (Nat.le_refl _)]
    congr 2
    simp
  rw [e, (bf_step hn (pageB_in hn ws b t _) (standsIn_subs hn ws ch b)).2]
  rfl
theorem pageT_nil {n : Nat} (hn : n ≤ 3) (ws : List (List Nat)) (b : Int) : pageT ws b n [] = plainT n := (idB_in hn).2
/-! kinds in the heap -/
def KAt (K : Frag) (H : Hp) (a : Addr) (ks ps : List (List Nat)) : Prop := ∃ dx c g, ∃ u v : V, H a = some (.ins (gA K "Kinds") dx [("_signs", u), ("_sign_coats", v), ("_coats", .ref c), ("_pages", .ref g)]) ∧ RA (CoR K) H c ks ∧ H g = some (.lst (sv ps))
theorem KAt.mono {K : Frag} {H H' : Hp} {a : Addr} {ks ps : List (List Nat)} (e : Ex H H') (h : KAt K H a ks ps) : KAt K H' a ks ps := by
  obtain ⟨dx, c, g, u, v, h1, h2, h3⟩ := h
  exact ⟨dx, c, g, u, v, e _ _ h1, h2.mono CoR.monoD.to e, e _ _ h3⟩
theorem KAt.monoD {K : Frag} {H H' : Hp} {a : Addr} {ks ps : List (List Nat)} (e : ExD H H') (h : KAt K H a ks ps) : KAt K H' a ks ps := by
  obtain ⟨dx, c, g, u, v, h1, h2, h3⟩ := h
  exact ⟨dx, c, g, u, v, e _ _ h1 isSt_ins, h2.monoD CoR.monoD e, e _ _ h3 isSt_sv⟩
/-- what the window's signs are to be -/
structure SgOk (ws : List (List Nat)) (sg : List Nat) (b : Int) (n : Nat) : Prop where
  w0 : 0 < ws.length
  w6 : ws.length ≤ 6
  sum : (ws.map List.length).sum ≤ 1000
  n3 : n ≤ 3
  sgl : sg.length ≤ 10
  b1 : -100 ≤ b
  b2 : b ≤ 100
  st : ∀ ch ∈ sg, standsOf ws ch ≠ []
def itemsOf (ws : List (List Nat)) (sg : List Nat) (b : Int) (n : Nat) : List (Nat × List Nat) := sg.zip (sg.map fun ch => signT ws ch b n)
@[irreducible] def kindsOf (ws : List (List Nat)) (sg : List Nat) (b : Int) (n : Nat) : List (List Nat) := ckK n (itemsOf ws sg b n)
@[irreducible] def pagesOf (ws : List (List Nat)) (sg : List Nat) (b : Int) (n : Nat) : List (List Nat) := ckP n (itemsOf ws sg b n)
theorem items_in {ws : List (List Nat)} {sg : List Nat} {b : Int} {n : Nat} (hn : n ≤ 3) : ∀ x ∈ itemsOf ws sg b n, x.2 ∈ allT n := by
  intro x hx
  obtain ⟨ch, _, e⟩ := List.mem_map.mp (List.of_mem_zip (show (x.1, x.2) ∈ sg.zip (sg.map fun ch => signT ws ch b n) from hx)).2
  rw [← e]
  exact (signT_in hn ws ch b).2.1
theorem CkOk.eta {n : Nat} {s : CkS} (h : CkOk n s) : CkOk n (s.1, s.2) := by cases s; exact h
theorem kinds_ok {ws : List (List Nat)} {sg : List Nat} {b : Int} {n : Nat} (hn : n ≤ 3) : CkOk n (kindsOf ws sg b n, pagesOf ws sg b n) := by
  have h := CkOk.at hn (items_in (ws := ws) (sg := sg) (b := b) hn) 16
  unfold kindsOf pagesOf ckK ckP
  exact CkOk.eta h
theorem walk_tx (t : List Nat) : Walk (Its (tx t)) t.length (fun _ => True) (fun i H v H' => H' = H ∧ v = .str (tx [t.getD i 0])) := by
  have hz : (tx t).cps.size = t.length := by simp [tx]
  have w := walk_str (z := tx t)
  rw [hz] at w
  refine ⟨w.1, w.2, fun i H x H' hi q y => ?_⟩
  obtain ⟨rfl, cc, h1, rfl⟩ := w.3 i H x H' hi q y
  refine ⟨rfl, ?_⟩
  have : t[i]? = some cc := by simpa [tx] using h1
  rw [List.getD_eq_getElem?_getD, this]
  rfl
theorem CalAt.neX {K : Frag} {H : Hp} {a x C dx : Addr} {ws : List (List Nat)} (h : CalAt K H a ws) (hx : H x = some (.ins C dx [])) : a ≠ x := by
  obtain ⟨d, w, h1, _⟩ := h
  rintro rfl
  rw [hx] at h1
  simp at h1
theorem CalAt.updI {K : Frag} {H : Hp} {a x C dx : Addr} {fs : List (Str × V)} {o : HO} {ws : List (List Nat)} (h : CalAt K H a ws) (hne : a ≠ x) (hx : H x = some (.ins C dx fs)) : CalAt K (upd H x o) a ws := by
  obtain ⟨d, w, h1, h2⟩ := h
  refine ⟨d, w, by rw [upd_ne hne]; exact h1, ?_⟩
  rw [upd_ne]
  · exact h2
  · rintro rfl
    rw [hx] at h2
    cases h2
theorem CoatAt.updI {K : Frag} {H : Hp} {a x C dx : Addr} {fs : List (Str × V)} {o : HO} {t : List Nat} (h : CoatAt K H a t) (hx : H x = some (.ins C dx fs)) (hf : fs.lookup ("_text" : Str) = none) : CoatAt K (upd H x o) a t := by
  obtain ⟨d, w, h1, h2⟩ := h
  refine ⟨d, w, ?_, ?_⟩
  · rw [upd_ne]
    · exact h1
    · rintro rfl
      rw [hx] at h1
      simp only [Option.some.injEq, HO.ins.injEq] at h1
      rw [h1.2.2] at hf
      simp [List.lookup] at hf
  · rcases h2 with (h | ⟨u, h⟩) | h
    · exact .inl (.inl (by rw [upd_ne (fun e => by rw [e, hx] at h; cases h)]; exact h))
    · exact .inl (.inr ⟨u, by rw [upd_ne (fun e => by rw [e, hx] at h; cases h)]; exact h⟩)
    · exact .inr h
theorem RA.coUpdI {K : Frag} {H : Hp} {p x C dx : Addr} {fs : List (Str × V)} {o : HO} {ts : List (List Nat)} (h : RA (CoR K) H p ts) (hx : H x = some (.ins C dx fs)) (hf : fs.lookup ("_text" : Str) = none) : RA (CoR K) (upd H x o) p ts := by
  refine h.keep (fun t a h => CoatAt.updI h hx hf) (upd_ne ?_)
  rintro rfl
  obtain ⟨ps, _, h2, _⟩ := h
  rw [hx] at h2
  cases h2
end DR

set_option Elab.async false
set_option linter.all false
set_option maxRecDepth 100000
set_option maxHeartbeats 4000000
namespace DR
open PySem PySem.Spec PyProof.Rows L2
open PySem.W (Frag)
local macro_rules
  | `(tactic| walk_at "wp") => `(tactic| try simp only [L2.start, List.map_cons, List.map_nil, List.length_cons, List.length_nil, List.replicate, Nat.reduceAdd, Nat.reduceSub, List.cons_append, List.nil_append, List.append_nil, List.set_cons_succ, List.set_cons_zero,
      List.getElem?_cons_succ, List.getElem?_cons_zero, ap_K1, ap_K2, ap_seq, ap_next, ap_asg, ap_name, ap_ret, ap_retN, ap_drop, ap_ifS, ap_c, ap_var, ap_op, ap_un, ap_chain, ap_test, ap_B, ap_and, ap_or, ap_not, ap_yes, ap_andV, ap_orV, ap_notV, ap_if, ap_nil, ap_cons, ap_cb, ap_lst, ap_tup, ap_bm, ap_bm0, ap_m1, ap_call, ap_sl, ap_part, ap_nopart, ap_rI0, ap_rI, ap_rU, ap_eqI, ap_neI, ap_eqS, ap_neS, ap_eqB, ap_neB, ap_fld, ap_tup_, ap_gcons, ap_gnil, ap_gsub, ap_for, ap_lc, ap_rng1, ap_rng2, ap_list, ap_itup, ap_str, ap_enum, ap_zip, ap_inSg, ap_ninSg, ap_addS, ap_sfld, ap_meth, ap_prop, ap_make, ap_smeth, ap_never, ap_ost, ap_callS, ap_mko, ap_enumS, ap_zipS, ap_rng3, ap_listRg, ap_dnin, ap_din, ap_dput, ap_gfld,  ap_leS, lit_alpha, tg1, tg2, tg3, tg4, tg5, tg6, eq_self, ap_revL,  ap_rg1, ap_cval, len_abcdef, exists_and_left, exists_and_right, exists_eq_left', and_assoc, exists_eq_left, exists_eq, exists_eq', Option.some.injEq, V.int.injEq, V.str.injEq, V.ref.injEq, V.bl.injEq, V.ty.injEq, List.cons.injEq, and_true, true_and, decide_eq_true_eq, Bool.not_eq_true', decide_eq_false_iff_not, Bool.false_eq_true, if_true, if_false, reduceCtorEq, false_and, and_false, or_false, false_or, or_true, true_or, not_true_eq_false, not_false_eq_true, Int.zero_add, lit_nil, lit_a, tx_len, one_tx, tx_app, tx_inj, exists_const, forall_const])
  | `(tactic| walk_at "om") => `(tactic| repeat (refine ⟨by first | omega | exact szI, ?_⟩))

theorem sc_Kinds_len : FnScope ["self"] ["self"] (defScope s_Kinds_len) := ⟨rfl, rfl, rfl, by decide +kernel, rfl, by decide +kernel, by decide +kernel⟩
theorem b_Kinds_len {K : Frag} {mg : Str → Option Value} (c : Wd K mg) : Binds K (fdOf K (mA K "Kinds" "__len__")) ["self"] [] := c.f_Kinds_len.binds (fun _ _ _ _ _ _ us hl => match us, hl with | [_], _ => rfl)
theorem ok_Kinds_len {P : Program} {w : World} {K : Frag} {mg : Str → Option Value} {base : Heap} (c : Wd K mg) : FnOk P w K mg base (L2.CX P w) 2 (mA K "Kinds" "__len__") (fdOf K (mA K "Kinds" "__len__")) ["self"] (sp_Kinds_len K) := by
  refine c.f_Kinds_len.okX sc_Kinds_len (fun vs H Q E h => ?_) (fun cdv A outer s H vs Q E hr h => ⟨_, PSs.nox (pss_one (ps_ret (pe_callB call_lenV (by rfl) c.z_len (by decide +kernel) (pa_cons (pe_fld (pv 0) rfl) pa_nil)))), ?_⟩)
  · obtain ⟨a, dx, l, fs, zs, rfl, ha, hlk, hS, hQ⟩ := h
    rfl
  obtain ⟨a, dx, l, fs, zs, rfl, ha, hlk, hS, hQ⟩ := h
  walk_at "wp"
  exact ⟨a, _, dx, fs, _, rfl, ha, c.c_Kinds, c.a_Kinds_coats, hlk, len_l hS rfl hQ⟩
def sp_Kinds_init (K : Frag) : Sp := fun vs H Q _ => ∃ (x dx a : Addr) (ws : List (List Nat)) (sg : List Nat) (b : Int) (n : Nat), vs = [.ref x, .ref a, .str (tx sg), .int b, .int (b + n)] ∧ H x = some (.ins (gA K "Kinds") dx []) ∧ CalAt K H a ws ∧ SgOk ws sg b n ∧ badAt ws sg = none ∧ ∀ H', ExB x H H' → KAt K H' x (kindsOf ws sg b n) (pagesOf ws sg b n) → Q .non H'
theorem sc_Kinds_init : FnScope ["self", "calendar", "signs", "begin", "end", "sign"] ["self", "calendar", "signs", "begin", "end"] (defScope s_Kinds_init) := ⟨rfl, rfl, rfl, by decide +kernel, rfl, by decide +kernel, by decide +kernel⟩
theorem b_Kinds_init {K : Frag} {mg : Str → Option Value} (c : Wd K mg) : Binds K (fdOf K (mA K "Kinds" "__init__")) ["self", "calendar", "signs", "begin", "end"] [] := c.f_Kinds_init.binds (fun _ _ _ _ _ _ us hl => match us, hl with | [_, _, _, _, _], _ => rfl)
theorem ok_Kinds_init {P : Program} {w : World} {K : Frag} {mg : Str → Option Value} {base : Heap} (c : Wd K mg) : FnOk P w K mg base (L2.CX P w) 6 (mA K "Kinds" "__init__") (fdOf K (mA K "Kinds" "__init__")) ["self", "calendar", "signs", "begin", "end"] (sp_Kinds_init K) := by
  refine c.f_Kinds_init.okX sc_Kinds_init (fun vs H Q E h => ?_) (fun cdv A outer s H vs Q E hr h => ⟨_, PSs.nox (pss_cons (ps_expr (pe_call (ok_check_signs c) (hr.mono (by decide)) rfl c.g_check_signs c.f_check_signs.kp (b_check_signs c) .nil passL (pa_cons (pv 1) (pa_cons (pv 2) pa_nil))))
      (pss_cons (ps_expr (pe_call (ok_check_window c) (hr.mono (by decide)) rfl c.g_check_window c.f_check_window.kp (b_check_window c) .nil passL (pa_cons (pv 3) (pa_cons (pv 4) pa_nil))))
      (pss_cons (ps_fld (pv 0) (pv 2) rfl)
      (pss_cons (ps_fld (pv 0) (pe_lc (own := [("sign", 5)]) (g := gName 5) rfl sc_Kinds_init.nd (pi_str (pv 2)) (blkOk_by (own := [("sign", 5)]) (N := ["self", "calendar", "signs", "begin", "end", "sign"]) (sc := defScope s_Kinds_init) (by decide +kernel)) (fun _ _ _ _ _ => (pg_name (i := 5) sc_Kinds_init.nd rfl (Or.inl rfl))) (fun _ _ _ _ _ => pts_nil) (fun _ _ _ _ _ => (pe_call (ok_sign_coat c) (hr.mono (by decide)) rfl c.g_sign_coat c.f_sign_coat.kp (b_sign_coat c) .nil passL (pa_cons (pv 1) (pa_cons (pv 5) (pa_cons (pv 3) (pa_cons (pv 4) pa_nil))))))) rfl)
      (pss_one (ps_asg (pe_call (ok_closed_kinds c) (hr.mono (by decide)) rfl c.g_closed_kinds c.f_closed_kinds.kp (b_closed_kinds c) .nil passL (pa_cons (pe_op op_sub (pv 4) (pv 3)) (pa_cons (pv 2) (pa_cons (pe_fld (pv 0) rfl) pa_nil)))) (pg_tup (n := 2) rfl (pgs_cons (pg_fld (pv 0)) (pgs_cons (pg_fld (pv 0)) pgs_nil))))))))), ?_⟩)
  · obtain ⟨x, dx, a, ws, sg, b, n, rfl, hx, ha, ok, hbad, hQ⟩ := h
    rfl
  obtain ⟨x, dx, a, ws, sg, b, n, rfl, hx, ha, ok, hbad, hQ⟩ := h
  walk_at "wp"
  refine ⟨a, ws, sg, rfl, ha, ok.sum, by have := ok.sgl; omega, fun _ H1 hx1 => ?_, fun i hi => by rw [hbad] at hi; cases hi⟩
  walk_at "wp"
  have hn3 := ok.n3
  refine ⟨b, b + n, rfl, fun _ _ => ?_, fun h => absurd h (by omega), fun _ h => absurd h (by omega)⟩
  walk_at "wp"
  refine sfld_ok (hx1 _ _ hx) c.c_Kinds c.a_Kinds_signs (by simp) ?_
  simp only [putF_nil]
  walk_at "wp"
  have hax := ha.neX hx
  have ha1 : CalAt K (upd H1 x (.ins (gA K "Kinds") dx [("_signs", .str (tx sg))])) a ws := (ha.mono hx1).updI hax (hx1 _ _ hx)
  have hx2 := upd_same (H := H1) (a := x) (o := .ins (gA K "Kinds") dx [("_signs", .str (tx sg))])
  have e1 : ExB x H (upd H1 x (.ins (gA K "Kinds") dx [("_signs", .str (tx sg))])) := fun b o hb ho => by rw [upd_ne hb]; exact hx1 _ _ ho
  revert ha1 hx2 e1
  generalize upd H1 x (.ins (gA K "Kinds") dx [("_signs", .str (tx sg))]) = H2
  intro ha1 hx2 e1 D hD
  refine lc_RA (R := CoR K) (walk_tx sg) CoR.monoD.to CoR.off (fun _ => true) (fun i => signT ws (sg.getD i 0) b n) (fun _ _ => trivial) (by have := ok.sgl; omega) hD ?_ ?_
  · rintro i v H3 H4 hi hx3 ⟨rfl, rfl⟩ Q' QN q1 q2
    refine ⟨rfl, ?_⟩
    simp only [wipe]
    walk_at "wp"
    have hs := signT_in hn3 ws (sg.getD i 0) b
    exact ⟨a, ws, sg.getD i 0, n, b, rfl, ha1.mono hx3, ok.w0, by have := ok.w6; omega, ok.st _ (getD_mem hi), by omega, by have := ok.b1; omega, by have := ok.b2; omega, hs.1, (allT_mem hs.2.1).1, hs.2.2, fun p H5 hp hx5 h5 => q1 p H5 hx5 h5 rfl⟩
  · intro H3 hx3 hR
    rw [range_all sg 0 (fun ch => signT ws ch b n)] at hR
    refine sfld_ok (hx3 _ _ hx2) c.c_Kinds c.a_Kinds_sign_coats (by show 1 < 1000; decide) ?_
    rw [putF_ne (by decide +kernel), putF_nil]
    have hxD : D ≠ x := by rintro rfl; rw [hx2] at hD; cases hD
    have hR3 : RA (CoR K) (upd H3 x (.ins (gA K "Kinds") dx [("_signs", .str (tx sg)), ("_sign_coats", .ref D)])) D (sg.map fun ch => signT ws ch b n) := by
      exact hR.coUpdI (hx3 _ _ hx2) (by rfl)
    have e2 : ExB x H (upd H3 x (.ins (gA K "Kinds") dx [("_signs", .str (tx sg)), ("_sign_coats", .ref D)])) := fun b o hb ho => by rw [upd_ne hb]; exact hx3 _ _ (e1 b o hb ho)
    have hx4 := upd_same (H := H3) (a := x) (o := .ins (gA K "Kinds") dx [("_signs", .str (tx sg)), ("_sign_coats", .ref D)])
    revert hR3 e2 hx4
    generalize upd H3 x (.ins (gA K "Kinds") dx [("_signs", .str (tx sg)), ("_sign_coats", .ref D)]) = H4
    intro hR3 e2 hx4
    walk_at "wp"
    refine fld_ok hx4 c.c_Kinds c.a_Kinds_sign_coats (by rfl) ?_
    have hmul := kinds_ok (ws := ws) (sg := sg) (b := b) hn3
    refine ⟨n, sg, D, sg.map fun ch => signT ws ch b n, by rw [show b + (n : Int) - b = (n : Int) by omega], hR3, by simp, hn3, ok.sgl, fun t ht => ?_, fun p cc g H5 hp hx5 hp5 hc5 hg5 => ?_⟩
    · obtain ⟨ch, _, rfl⟩ := List.mem_map.mp ht
      exact (signT_in hn3 ws ch b).2.1
    have hx6 := hx5 _ _ hx4
    have e5 : ExB x H H5 := fun b o hb ho => hx5 _ _ (e2 b o hb ho)
    have hpx : p ≠ x := by rintro rfl; rw [hx4] at hp; cases hp
    have hgx : g ≠ x := by rintro rfl; rw [hx6] at hg5; cases hg5
    have ek : ckK n (sg.zip (sg.map fun ch => signT ws ch b n)) = kindsOf ws sg b n := by unfold kindsOf itemsOf; rfl
    have ep : ckP n (sg.zip (sg.map fun ch => signT ws ch b n)) = pagesOf ws sg b n := by unfold pagesOf itemsOf; rfl
    rw [ek] at hc5
    rw [ep] at hg5
    refine ⟨p, rfl, _, Evl.st_of hp5, rfl, _, _, rfl, ?_⟩
    refine sfld_ok hx6 c.c_Kinds c.a_Kinds_coats (by show 2 < 1000; decide) ?_
    rw [putF_ne (by decide +kernel), putF_ne (by decide +kernel), putF_nil]
    refine ⟨_, _, rfl, ?_⟩
    refine sfld_ok upd_same c.c_Kinds c.a_Kinds_pages (by show 3 < 1000; decide) ?_
    rw [putF_ne (by decide +kernel), putF_ne (by decide +kernel), putF_ne (by decide +kernel), putF_nil, upd_upd]
    refine ⟨rfl, hQ _ (fun b o hb ho => by rw [upd_ne hb]; exact e5 b o hb ho) ⟨dx, cc, g, _, _, upd_same, hc5.coUpdI hx6 (by rfl), by rw [upd_ne hgx]; exact hg5⟩⟩
theorem mk_kinds {K : Frag} {a : Addr} {ws : List (List Nat)} {sg : List Nat} {b : Int} {n : Nat} {H : Hp} {Q : Addr → Hp → Prop} {E : XK} (ha : CalAt K H a ws) (ok : SgOk ws sg b n) (hbad : badAt ws sg = none) (q : ∀ p H', H p = none → Ex H H' → KAt K H' p (kindsOf ws sg b n) (pagesOf ws sg b n) → Q p H') :
    rMake (gA K "Kinds") (fun x H2 => sp_Kinds_init K (.ref x :: ([.ref a, .str (tx sg), .int b, .int (b + n)] ++ [])) H2 (fun v H3 => v = .non ∧ Q x H3) E) H := by
  intro x dx hx hdx hne
  have hE : Ex H (upd (upd H dx (.own x)) x (.ins (gA K "Kinds") dx [])) := (Evl.Ex.new hdx).mut hx
  refine ⟨x, dx, a, ws, sg, b, n, rfl, upd_same, ha.mono hE, ok, hbad, fun H' e h => ⟨rfl, q x H' hx (fun b o ho => ?_) h⟩⟩
  exact e b o (ne_of_none ho hx) (hE b o ho)
def sp_Kinds_page_of (K : Frag) : Sp := fun vs H Q _ => ∃ (a b : Addr) (ks ps : List (List Nat)) (i : Nat), vs = [.ref a, .ref b] ∧ KAt K H a ks ps ∧ ps.length = ks.length ∧ ks.length ≤ 1000 ∧ ks.Nodup ∧ i < ks.length ∧ CoatAt K H b (ks.getD i []) ∧ ∀ H', Ex H H' → Q (.str (tx (ps.getD i []))) H'
theorem sc_Kinds_page_of : FnScope ["self", "coat", "kind", "page"] ["self", "coat"] (defScope s_Kinds_page_of) := ⟨rfl, rfl, rfl, by decide +kernel, rfl, by decide +kernel, by decide +kernel⟩
theorem b_Kinds_page_of {K : Frag} {mg : Str → Option Value} (c : Wd K mg) : Binds K (fdOf K (mA K "Kinds" "page_of")) ["self", "coat"] [] := c.f_Kinds_page_of.binds (fun _ _ _ _ _ _ us hl => match us, hl with | [_, _], _ => rfl)
theorem ok_Kinds_page_of {P : Program} {w : World} {K : Frag} {mg : Str → Option Value} {base : Heap} (c : Wd K mg) : FnOk P w K mg base (L2.CX P w) 3 (mA K "Kinds" "page_of") (fdOf K (mA K "Kinds" "page_of")) ["self", "coat"] (sp_Kinds_page_of K) := by
  refine c.f_Kinds_page_of.okX sc_Kinds_page_of (fun vs H Q E h => ?_) (fun cdv A outer s H vs Q E hr h => ⟨_, PSs.nox (pss_cons (ps_for PassesOwn.never rfl (pi_zip (by rfl) c.z_zip (pa_cons (pe_fld (pv 0) rfl) (pa_cons (pe_fld (pv 0) rfl) pa_nil))) (pg_tup (n := 2) rfl (pgs_cons (pg_name (i := 2) sc_Kinds_page_of.nd rfl (Or.inl rfl)) (pgs_cons (pg_name (i := 3) sc_Kinds_page_of.nd rfl (Or.inl rfl)) pgs_nil))) (pss_one (ps_if (pt_cmpR (op_ownEqM (ok_Coat_eq c) (hr.mono (by decide)) (b_Coat_eq c) passL c.m_Coat_eq) (pv 2) (pv 1) (nomark _)) (pss_one (ps_ret (pv 3))) pss_nil)))
      (pss_one ps_never)), ?_⟩)
  · obtain ⟨a, b, ks, ps, i, rfl, ha, hpl, hkl, hnd, hi, hb, hQ⟩ := h
    rfl
  obtain ⟨a, b, ks, ps, i, rfl, ha, hpl, hkl, hnd, hi, hb, hQ⟩ := h
  obtain ⟨dx, cc, g, u, v, h1, h2, h3⟩ := ha
  obtain ⟨vs, hv1, hv2, hv3, hv4⟩ := h2.seq (K := K)
  walk_at "wp"
  refine fld_ok h1 c.c_Kinds c.a_Kinds_coats (by rfl) ?_
  refine fld_ok h1 c.c_Kinds c.a_Kinds_pages (by rfl) ?_
  refine ⟨cc, rfl, g, rfl, ⟨_, hv1⟩, ⟨_, Evl.sq_of h3⟩, ?_⟩
  refine lp_it (walk_zip (xs := vs) (ys := sv ps) (n := ks.length) (by rw [hv3, sv_len, hpl]; omega)) (fun j σ' H' => ∃ x y, σ' = [some (.ref a), some (.ref b), x, y] ∧ Ex H H' ∧ j ≤ i) ⟨_, _, rfl, Evl.Ex.refl _, Nat.zero_le _⟩ (fun j σ' H' _ ⟨_, _, _, e, _⟩ => ⟨Evl.ex_l e hv1, Evl.ex_l e (Evl.sq_of h3)⟩) ?_ ?_
  · rintro j v0 σ' H1 H2 hj ⟨x, y, rfl, hx1, hji⟩ ⟨T, y1, y2, rfl, hT, rfl, g1, g2⟩
    obtain ⟨kt, ka, g3, rfl, g4⟩ := hv4 j y1 g1
    have hlt : j < ps.length := by omega
    have g5 : y2 = .str (tx (ps.getD j [])) := by
      have g2 : (sv ps)[j]? = some y2 := g2
      unfold sv at g2
      rw [List.getElem?_map, List.getElem?_eq_getElem hlt] at g2
      rw [List.getD_eq_getElem?_getD, List.getElem?_eq_getElem hlt]
      exact (Option.some.inj g2).symm
    subst g5
    walk_at "wp"
    have hx2 := hx1.trans (Evl.Ex.new (o := .tup [.ref ka, .str (tx (ps.getD j []))]) hT)
    refine ⟨_, Evl.st_of upd_same, rfl, _, _, rfl, _, _, rfl, rfl, ?_⟩
    walk_at "wp"
    refine eqC (CoR.monoD.to _ _ _ _ hx2 g4) (hb.mono hx2) ?_
    have hkt : kt = ks.getD j [] := by rw [List.getD_eq_getElem?_getD, g3]; rfl
    walk_at "wp"
    split <;> rename_i h
    · have hij : j = i := by
        rw [hkt] at h
        rw [List.getD_eq_getElem?_getD, List.getD_eq_getElem?_getD, List.getElem?_eq_getElem hj, List.getElem?_eq_getElem hi] at h
        exact (List.getElem_inj hnd).mp h
      subst hij
      walk_at "wp"
      exact hQ _ hx2
    · have hij : j ≠ i := by
        rintro rfl
        exact h hkt
      exact ⟨hx2, by omega⟩
  · rintro σ' H1 ⟨x, y, rfl, hx1, hji⟩
    exact absurd hi (by omega)
end DR

set_option Elab.async false
set_option linter.all false
set_option maxRecDepth 100000
set_option maxHeartbeats 4000000
/-! isinstance of a caught error with fields -/
namespace DR
open PySem PySem.Spec PyProof.Rows L2
open PySem.W (Frag)
structure ExK (K : Frag) (C : Addr) : Prop where
  x : XfC K C
  a : PySem.W.findIn K (.ref C) "__class__" = some (some (.builtin "object.__class__"))
  m : PySem.W.mroIn K C (.type "object") = some true
  n : PySem.W.specialIn K (.builtin "object.__class__") "__get__" = some (some (.builtin "getset_descriptor.__get__"))
  t : PySem.W.takesIn K (.builtin "object.__class__") = some true
/-- isinstance(e, D), e the caught error, its fields in d -/
def rIsX (K : Frag) (cls : Value) (d : Option Addr) (a : Addr) : List V → Hp → VK → Prop := fun xs H Q => ∃ (C D dd : Addr) (fs : List (Str × V)) (b : Bool), xs = [.ref a, .ref D] ∧ cls = .ref C ∧ ExK K C ∧ d = some dd ∧ H dd = some (.xd fs) ∧ PySem.W.kitOne K (.ref C) (.ref D) = some b ∧ Q (.bl b) H
theorem call_isX {X : Cx} {a : Addr} {oe : Obj} {cls : Value} {d : Option Addr} {pn : List (Addr × Obj)} (hz : Zc cls d oe) (hf : ∃ vs, oe.data = .fields vs) : CallR (X.suite a ((a, oe) :: pn)) (.builtin "isinstance") (rIsX X.K cls d a) := by
  intro pins s σ H xs us Q I r h
  obtain ⟨C, D, dd, fs, b, rfl, rfl, ek, rfl, hdd, e, q⟩ := h
  cases r with
  | cons rx rr =>
    cases rr with
    | cons rt rr =>
      cases rr
      cases rx
      cases rt
      obtain ⟨hget, _⟩ := I.pin (a, oe) (List.mem_append.mpr (.inl List.mem_cons_self))
      obtain ⟨vs, hv⟩ := hf
      have hx : ObjOk X.prog X.w H s.heap dd (.xd fs) := I.hok dd _ hdd
      obtain ⟨mA, hns, hr⟩ := hx
      obtain ⟨od, ho, hl⟩ := lookIn_ns hns
      have J : PySem.W.InstAt s.heap a oe C (some od) := ⟨hget, hz.1, by unfold PySem.W.notCls; rw [hv] <;> rfl, by rw [hz.2]; exact ho⟩
      obtain ⟨cd, hc, _⟩ := PySem.W.any_some ek.x.hdC
      refine PySem.W.kia_one (PySem.W.kitx_exc (by rw [hc]; rfl) ek.x.ga ek.x.gg ek.x.exC ek.a ek.n ek.t ek.m) I.kIn J e (fun z => nomatch z) fun tk => ⟨.bl b, H, I.kept (t' := tk) fun _ _ z => z, rfl, q⟩
theorem exK_of {K : Frag} {c : Str} (hx : XfC K (gA K c)) (h1 : tyB c K = true) (h2 : tyG K = true) : ExK K (gA K c) := by
  obtain ⟨a1, a2⟩ := He.ba h1
  obtain ⟨b1, b2⟩ := He.ba h2
  exact ⟨hx, He.eqO_ok a1, of_decide_eq_true a2, He.eqO_ok b1, of_decide_eq_true b2⟩
end DR

set_option Elab.async false
set_option linter.all false
set_option maxRecDepth 100000
set_option maxHeartbeats 4000000
/-! moved sayings, refusals, what decides -/
namespace DR
open PySem PySem.Spec PyProof.Rows L2
open PySem.W (Frag)
theorem move_pl (d b e n : Int) : (Tr.pl b e n).move d = .pl (b + d) (e + d) n := rfl
theorem move_no (d : Int) (t : Tr) : (Tr.no t).move d = .no (t.move d) := rfl
theorem move_an (d : Int) (t u : Tr) : (Tr.an t u).move d = .an (t.move d) (u.move d) := rfl
theorem move_ro (d : Int) (t u : Tr) : (Tr.ro t u).move d = .ro (t.move d) (u.move d) := rfl
theorem move_size (d : Int) : ∀ t : Tr, (t.move d).size = t.size
  | .pl _ _ _ => rfl
  | .no t => by rw [move_no]; simp [Tr.size, move_size d t]
  | .an t u => by rw [move_an]; simp [Tr.size, move_size d t, move_size d u]
  | .ro t u => by rw [move_ro]; simp [Tr.size, move_size d t, move_size d u]
theorem post_move (d : Int) : ∀ t : Tr, post (t.move d) = (post t).map (Tr.move d)
  | .pl _ _ _ => rfl
  | .no t => by rw [move_no]; simp [post, post_move d t, move_no]
  | .an t u => by rw [move_an]; simp [post, post_move d t, post_move d u, move_an]
  | .ro t u => by rw [move_ro]; simp [post, post_move d t, post_move d u, move_ro]
theorem prs_move (d : Int) : ∀ ts : List Tr, prs (ts.map (Tr.move d)) = (prs ts).map fun p => (p.1 + d, p.2 + d)
  | [] => rfl
  | x :: r => by
    have ih := prs_move d r
    unfold prs at ih ⊢
    cases x with
    | pl b e n => simpa [isPl, move_pl, plPair, List.filter_cons] using ih
    | no t => simpa [isPl, move_no, List.filter_cons] using ih
    | an t u => simpa [isPl, move_an, List.filter_cons] using ih
    | ro t u => simpa [isPl, move_ro, List.filter_cons] using ih
def PlLe (t : Tr) : Prop := ∀ p ∈ prs (post t), p.1 ≤ p.2
theorem outP_f {b e : Int} {p : Int × Int} : outP b e p = false ↔ b ≤ p.1 ∧ p.2 ≤ e := by
  unfold outP
  rw [Bool.or_eq_false_iff, decide_eq_false_iff_not, decide_eq_false_iff_not]
  omega
theorem outAt_none {b e : Int} {t : Tr} : outAt b e t = none ↔ ∀ p ∈ prs (post t), b ≤ p.1 ∧ p.2 ≤ e := by
  unfold outAt
  rw [List.find?_eq_none]
  exact ⟨fun h p hp => outP_f.mp (by simpa using h p hp), fun h p hp => by simpa using outP_f.mpr (h p hp)⟩
theorem plOk_move {b : Int} {n : Nat} {t : Tr} (hl : PlLe t) (h : outAt b (b + n) t = none) : PlOk (n + 1) (t.move (-b)) := by
  intro p hp
  rw [post_move, prs_move] at hp
  obtain ⟨q, hq, rfl⟩ := List.mem_map.mp hp
  have h1 := hl q hq
  have h2 := outAt_none.mp h q hq
  simp only
  refine ⟨by omega, by omega, ?_⟩
  rw [Int.natCast_add]
  omega
/-- the refusal of a question, if it is one -/
def refusal (ws : List (List Nat)) (sg : List Nat) (b e : Int) (t : Tr) : Option (Str × List (Str × Int)) :=
  match badAt ws sg with
  | some i => some ("BadSigns", [("index", (i : Int))])
  | none => if e < b then some ("BadStretch", [("end", e), ("begin", b)]) else if 5 < e - b then some ("TooLong", [("length", e - b)]) else
    match outAt b e t with
    | some p => some ("OutOfWindow", [("end", p.2), ("begin", p.1)])
    | none => none
def fsV (fs : List (Str × Int)) : List (Str × V) := fs.map fun f => (f.1, .int f.2)
/-- is the saying, moved to its window, true of the coat -/
def evT (t : Tr) (b : Int) (k : List Nat) : Bool := (t.move (-b)).ev (plQ k)
def brkAt (ks : List (List Nat)) (t : Tr) (b : Int) : Option Nat := (List.range ks.length).find? fun i => !evT t b (ks.getD i [])
def pageV : Option (List Nat) → V
  | some p => .str (tx p)
  | none => .non
def brkOf (ks ps : List (List Nat)) (t : Tr) (b : Int) : Option (List Nat) := (brkAt ks t b).map fun i => ps.getD i []
theorem sayO {K : Frag} {H : Hp} {Q : VK} {E : XK} {s cb : Addr} {t : Tr} {tt : List Nat} (h : SayAt K H s t) (hc : CoatAt K H cb tt) (hp : PlOk tt.length t) (hz : t.size ≤ 1000) (hl : tt.length ≤ 50) (q : ∀ H', Ex H H' → Q (.bl (t.ev (plQ tt))) H') :
    (∃ dx fs, H s = some (.ins (gA K "Saying") dx fs)) ∧ (∃ dx fs, H s = some (.ins (gA K "Saying") dx fs)) ∧ sp_Saying_call K [.ref s, .ref cb] H Q E := by
  obtain ⟨dx, x, h1, _⟩ := id h
  exact ⟨⟨dx, _, h1⟩, ⟨dx, _, h1⟩, s, t, cb, tt, rfl, h, hc, hp, hz, hl, q⟩
theorem KAt.inst {K : Frag} {H : Hp} {P : Prop} {a : Addr} {ks ps : List (List Nat)} (h : KAt K H a ks ps) (q : P) : rInst (gA K "Kinds") "page_of" (.ref a) H P := by
  obtain ⟨dx, x, y, u, v, h1, h2⟩ := h
  exact inst_ok h1 (by rfl) q
/-! certificates in the heap -/
def CF (a : Addr) (sg : List Nat) (b e : Int) (s : Addr) (f : Str) (v : V) : List (Str × V) := [("_calendar", .ref a), ("_signs", .str (tx sg)), ("_begin", .int b), ("_end", .int e), ("_saying", .ref s), (f, v)]
def PcAt (K : Frag) (H : Hp) (x a : Addr) (sg : List Nat) (b e : Int) (s : Addr) (p : List Nat) : Prop := ∃ dx, H x = some (.ins (gA K "PageCertificate") dx (CF a sg b e s "_page" (.str (tx p))))
def LcAt (K : Frag) (H : Hp) (x a : Addr) (sg : List Nat) (b e : Int) (s : Addr) (ks : List (List Nat)) : Prop := ∃ dx c, H x = some (.ins (gA K "ListCertificate") dx (CF a sg b e s "_coats" (.ref c))) ∧ RA (CoR K) H c ks
theorem PcAt.monoD {K : Frag} {H H' : Hp} {x a : Addr} {sg : List Nat} {b e : Int} {s : Addr} {p : List Nat} (h : ExD H H') (q : PcAt K H x a sg b e s p) : PcAt K H' x a sg b e s p := by
  obtain ⟨dx, h1⟩ := q
  exact ⟨dx, h _ _ h1 isSt_ins⟩
theorem LcAt.monoD {K : Frag} {H H' : Hp} {x a : Addr} {sg : List Nat} {b e : Int} {s : Addr} {ks : List (List Nat)} (h : ExD H H') (q : LcAt K H x a sg b e s ks) : LcAt K H' x a sg b e s ks := by
  obtain ⟨dx, c, h1, h2⟩ := q
  exact ⟨dx, c, h _ _ h1 isSt_ins, h2.monoD CoR.monoD h⟩
theorem LcAt.mono {K : Frag} {H H' : Hp} {x a : Addr} {sg : List Nat} {b e : Int} {s : Addr} {ks : List (List Nat)} (h : Ex H H') (q : LcAt K H x a sg b e s ks) : LcAt K H' x a sg b e s ks := q.monoD (.of h)
theorem PcAt.mono {K : Frag} {H H' : Hp} {x a : Addr} {sg : List Nat} {b e : Int} {s : Addr} {p : List Nat} (h : Ex H H') (q : PcAt K H x a sg b e s p) : PcAt K H' x a sg b e s p := q.monoD (.of h)
theorem sfld_up {K : Frag} {H : Hp} {a C dx : Addr} {fs : List (Str × V)} {f : Str} {y : V} {Q : Hp → Prop} (cl : Cls K C) (na : NoAttr K C f) (l : fs.length < 1000) (q : Q (upd H a (.ins C dx (putF f y fs)))) : rSFld K f (.ref a) y (upd H a (.ins C dx fs)) Q := sfld_ok upd_same cl na l (by rw [upd_upd]; exact q)
section
variable {K : Frag} {H : Hp} {Q : VK}
theorem ap_kinds {te : TE} {σ : L2.St} {R : It → Hp → Prop} : iKinds K te σ H R = te σ H fun x H1 => rKinds K x H1 fun l _ => R (Itl K l) H1 := rfl
theorem ap_callO {C : Addr} {sp : Sp} {E : XK} {i : Nat} {t : TA} {σ : L2.St} : tCallO C sp E i t σ H Q = ∃ a dx fs, σ[i]? = some (some (.ref a)) ∧ H a = some (.ins C dx fs) ∧ t σ H fun vs H1 => (∃ dy gs, H1 a = some (.ins C dy gs)) ∧ sp (.ref a :: vs) H1 Q E := rfl
theorem ap_notN {x : V} : rNotN x .non H Q = Q (.bl (!decide (x = .non))) H := by simp only [rNotN, true_and]
theorem all_ok {a : Addr} {n : Nat} {g : Nat → Bool} (h : H a = some (.lst (((List.range n).filter fun _ => true).map fun i => V.bl (g i)))) (q : Q (.bl ((List.range n).all g)) H) : rAll K [.ref a] H Q := by
  refine ⟨a, (List.range n).map g, rfl, ?_, by rw [List.all_map]; exact q⟩
  rw [List.map_map]
  rw [List.filter_eq_self.mpr (fun _ _ => rfl)] at h
  exact Evl.sq_of h
theorem any_ok {a : Addr} {n : Nat} {g : Nat → Bool} (h : H a = some (.lst (((List.range n).filter fun _ => true).map fun i => V.bl (g i)))) (q : Q (.bl ((List.range n).any g)) H) : rAny K [.ref a] H Q := by
  refine ⟨a, (List.range n).map g, rfl, ?_, by rw [List.any_map]; exact q⟩
  rw [List.map_map]
  rw [List.filter_eq_self.mpr (fun _ _ => rfl)] at h
  exact Evl.sq_of h
end
end DR

set_option Elab.async false
set_option linter.all false
set_option maxRecDepth 100000
set_option maxHeartbeats 4000000
namespace DR
open PySem PySem.Spec PyProof.Rows L2
open PySem.W (Frag)
local macro_rules
  | `(tactic| walk_at "wp") => `(tactic| try simp only [L2.start, List.map_cons, List.map_nil, List.length_cons, List.length_nil, List.replicate, Nat.reduceAdd, Nat.reduceSub, List.cons_append, List.nil_append, List.append_nil, List.set_cons_succ, List.set_cons_zero,
      List.getElem?_cons_succ, List.getElem?_cons_zero, ap_K1, ap_K2, ap_seq, ap_next, ap_asg, ap_name, ap_ret, ap_retN, ap_drop, ap_ifS, ap_c, ap_var, ap_op, ap_un, ap_chain, ap_test, ap_B, ap_and, ap_or, ap_not, ap_yes, ap_andV, ap_orV, ap_notV, ap_if, ap_nil, ap_cons, ap_cb, ap_lst, ap_tup, ap_bm, ap_bm0, ap_m1, ap_call, ap_sl, ap_part, ap_nopart, ap_rI0, ap_rI, ap_rU, ap_eqI, ap_neI, ap_eqS, ap_neS, ap_eqB, ap_neB, ap_fld, ap_tup_, ap_gcons, ap_gnil, ap_gsub, ap_for, ap_lc, ap_rng1, ap_rng2, ap_list, ap_itup, ap_str, ap_enum, ap_zip, ap_inSg, ap_ninSg, ap_addS, ap_sfld, ap_meth, ap_prop, ap_make, ap_smeth, ap_never, ap_ost, ap_callS, ap_mko, ap_enumS, ap_zipS, ap_rng3, ap_listRg, ap_dnin, ap_din, ap_dput, ap_gfld, ap_kinds, ap_callO, ap_notN, decide_true, decide_false, Bool.not_true, Bool.not_false,  ap_leS, lit_alpha, tg1, tg2, tg3, tg4, tg5, tg6, eq_self, ap_revL,  ap_rg1, ap_cval, len_abcdef, exists_and_left, exists_and_right, exists_eq_left', and_assoc, exists_eq_left, exists_eq, exists_eq', Option.some.injEq, V.int.injEq, V.str.injEq, V.ref.injEq, V.bl.injEq, V.ty.injEq, List.cons.injEq, and_true, true_and, decide_eq_true_eq, Bool.not_eq_true', decide_eq_false_iff_not, Bool.false_eq_true, if_true, if_false, reduceCtorEq, false_and, and_false, or_false, false_or, or_true, true_or, not_true_eq_false, not_false_eq_true, Int.zero_add, lit_nil, lit_a, tx_len, one_tx, tx_app, tx_inj, exists_const, forall_const])
  | `(tactic| walk_at "om") => `(tactic| repeat (refine ⟨by first | omega | exact szI, ?_⟩))

def BrkPre (K : Frag) (vs : List V) (H : Hp) (E : XK) (a : Addr) (ws : List (List Nat)) (sg : List Nat) (b e : Int) (s : Addr) (t : Tr) : Prop := vs = [.ref a, .str (tx sg), .int b, .int e, .ref s] ∧ CalAt K H a ws ∧ SayAt K H s t ∧ (ws.map List.length).sum ≤ 1000 ∧ sg.length ≤ 1000 ∧ t.size ≤ 1000 ∧ PlLe t ∧
  (∀ C fs, refusal ws sg b e t = some (C, fs) → Xw E (gA K C) (fsV fs) H)
def sp_breaker (K : Frag) : Sp := fun vs H Q E => ∃ (a : Addr) (ws : List (List Nat)) (sg : List Nat) (b e : Int) (s : Addr) (t : Tr), BrkPre K vs H E a ws sg b e s t ∧
  (refusal ws sg b e t = none → ∃ n : Nat, e = b + n ∧ SgOk ws sg b n ∧ ∀ H', Ex H H' → Q (pageV (brkOf (kindsOf ws sg b n) (pagesOf ws sg b n) t b)) H')
theorem sc_breaker : FnScope ["calendar", "signs", "begin", "end", "saying", "placed", "kinds", "kind"] ["calendar", "signs", "begin", "end", "saying"] (defScope s_breaker) := ⟨rfl, rfl, rfl, by decide +kernel, rfl, by decide +kernel, by decide +kernel⟩
theorem b_breaker {K : Frag} {mg : Str → Option Value} (c : Wd K mg) : Binds K (fdOf K (gA K "breaker")) ["calendar", "signs", "begin", "end", "saying"] [] := c.f_breaker.binds (fun _ _ _ _ _ _ us hl => match us, hl with | [_, _, _, _, _], _ => rfl)
theorem ok_breaker {P : Program} {w : World} {K : Frag} {mg : Str → Option Value} {base : Heap} (c : Wd K mg) : FnOk P w K mg base (L2.CX P w) 8 (gA K "breaker") (fdOf K (gA K "breaker")) ["calendar", "signs", "begin", "end", "saying"] (sp_breaker K) := by
  refine c.f_breaker.okX sc_breaker (fun vs H Q E h => ?_) (fun cdv A outer s H vs Q E hr h => ⟨_, (pss_cons (ps_expr (pe_callS (ok_check_signs c) (hr.mono (by decide)) rfl c.g_check_signs c.f_check_signs.kp (b_check_signs c) (fun σ => passAt (takes_of rfl rfl rfl rfl) σ) (pa_cons (pv 0) (pa_cons (pv 1) pa_nil))))
      (pss_cons (ps_expr (pe_callS (ok_check_window c) (hr.mono (by decide)) rfl c.g_check_window c.f_check_window.kp (b_check_window c) (fun σ => passAt (takes_of rfl rfl rfl rfl) σ) (pa_cons (pv 2) (pa_cons (pv 3) pa_nil))))
      (pss_cons (ps_expr (pe_callS (ok_check_inside c) (hr.mono (by decide)) rfl c.g_check_inside c.f_check_inside.kp (b_check_inside c) (fun σ => passAt (takes_of rfl rfl rfl rfl) σ) (pa_cons (pv 4) (pa_cons (pv 2) (pa_cons (pv 3) pa_nil)))))
      (pss_cons (ps_set (i := 5) sc_breaker.nd rfl (Or.inl rfl) (pe_meth (pv 4) c.c_Saying c.m_Saying_moved (ok_Saying_moved c) (hr.mono (by decide)) (b_Saying_moved c) .nil passL (pa_cons (pe_un un_neg (pv 2)) pa_nil)))
      (pss_cons (ps_set (i := 6) sc_breaker.nd rfl (Or.inl rfl) (pe_make c.mk_Kinds (ok_Kinds_init c) (hr.mono (by decide)) rfl c.g_Kinds (b_Kinds_init c) .nil passL (pa_cons (pv 0) (pa_cons (pv 1) (pa_cons (pv 2) (pa_cons (pv 3) pa_nil))))))
      (pss_cons (ps_for (passes_of rfl) rfl (pi_kinds c (hr.mono (by decide)) c.m_Kinds_iter (pv 6)) (pg_name (i := 7) sc_breaker.nd rfl (Or.inl rfl)) (pss_one (ps_if (pt_not (pt_val (pe_callO (ok_Saying_call c) (hr.mono (by decide)) (b_Saying_call c) passL c.m_Saying_call.at_ c.m_Saying_call.fn (fnIn_of c.f_Saying_call) (i := 5) rfl (Or.inl rfl) (pa_cons (pv 7) pa_nil)))) (pss_one (ps_ret (pe_meth (pv 6) c.c_Kinds c.m_Kinds_page_of (ok_Kinds_page_of c) (hr.mono (by decide)) (b_Kinds_page_of c) .nil passL (pa_cons (pv 7) pa_nil)))) pss_nil)))
      (pss_one (ps_ret pe_non)))))))), ?_⟩)
  · obtain ⟨a, ws, sg, b, e, s', t, ⟨rfl, ha, hs, hsum, hsl, hts, hle, hE⟩, hQ⟩ := h
    rfl
  obtain ⟨a, ws, sg, b, e, s', t, ⟨rfl, ha, hs, hsum, hsl, hts, hle, hE⟩, hQ⟩ := h
  walk_at "wp"
  refine ⟨a, ws, sg, rfl, ha, hsum, hsl, fun hbad H1 hx1 => ?_, fun i hbad => hE "BadSigns" [("index", (i : Int))] (by unfold refusal; rw [hbad])⟩
  walk_at "wp"
  refine ⟨b, e, rfl, fun h1 h2 => ?_, fun h1 => (hE "BadStretch" [("end", e), ("begin", b)] (by unfold refusal; rw [hbad]; simp only [if_pos h1])).mono hx1, fun h1 h2 => (hE "TooLong" [("length", e - b)] (by unfold refusal; rw [hbad]; simp only [if_neg (show ¬ e < b by omega), if_pos h2])).mono hx1⟩
  walk_at "wp"
  refine ⟨s', t, b, e, rfl, hs.mono hx1, hts, fun hin H2 hx2 => ?_, fun p hp => (hE "OutOfWindow" [("end", p.2), ("begin", p.1)] (by unfold refusal; rw [hbad, hp]; simp only [if_neg (show ¬ e < b by omega), if_neg (show ¬ 5 < e - b by omega)])).mono hx1⟩
  have href : refusal ws sg b e t = none := by
    unfold refusal
    rw [hbad, hin]
    simp only [if_neg (show ¬ e < b by omega), if_neg (show ¬ 5 < e - b by omega)]
  obtain ⟨n, rfl, ok, hQ⟩ := hQ href
  have hx12 := hx1.trans hx2
  have hn3 := ok.n3
  walk_at "wp"
  have hs2 := hs.mono hx12
  refine hs2.inst (by decide) ?_
  refine ⟨s', t, -b, rfl, hs2, hts, fun m H3 hm hx3 hm3 => ?_⟩
  walk_at "wp"
  have hx13 := hx12.trans hx3
  refine mk_kinds (ha.mono hx13) ok hbad fun kk H4 hkk hx4 hk4 => ?_
  walk_at "wp"
  have hk4' := hk4
  obtain ⟨dx, cc, g, u, v, e1, e2, e3⟩ := hk4'
  obtain ⟨vs, hv1, hv2, hv3, hv4⟩ := e2.seq (K := K)
  have kok := kinds_ok (ws := ws) (sg := sg) (b := b) hn3
  have klen := kok.le hn3
  have hx14 := hx13.trans hx4
  have hm4 := hm3.mono hx4
  refine ⟨kk, dx, cc, _, vs, rfl, e1, by rfl, hv1, ?_⟩
  refine lp_list (fun i σ' H' => ∃ x, σ' = [some (.ref a), some (.str (tx sg)), some (.int b), some (.int (b + n)), some (.ref s'), some (.ref m), some (.ref kk), x] ∧ Ex H4 H' ∧ ((List.range (kindsOf ws sg b n).length).take i).find? (fun i => !evT t b ((kindsOf ws sg b n).getD i [])) = none) ⟨_, rfl, Evl.Ex.refl _, rfl⟩ (fun i σ' H' _ ⟨_, _, e, _⟩ => Evl.ex_l e hv1) ?_ ?_
  · rintro i v σ' H5 hi hv ⟨x, rfl, hx5, hn⟩
    rw [hv3] at hi
    obtain ⟨kt, ka, g3, rfl, g4⟩ := hv4 i v hv
    have hkt : (kindsOf ws sg b n).getD i [] = kt := by rw [List.getD_eq_getElem?_getD, g3]; rfl
    obtain ⟨f1, f2⟩ := find_step (xs := List.range (kindsOf ws sg b n).length) (i := i) (x := i) (by simp [hi]) hn
    simp only [hkt] at f1 f2
    have hkm := kok.tx _ (List.mem_of_getElem? g3)
    have hkl := (allT_mem hkm).2
    have hm5 := hm4.mono hx5
    have hc5 : CoatAt K H5 ka kt := CoR.monoD.to _ _ _ _ hx5 g4
    walk_at "wp"
    refine sayO hm5 hc5 (by rw [hkl]; exact plOk_move hle hin) (by rw [move_size]; exact hts) (by omega) fun H6 hx6 => ?_
    walk_at "wp"
    have hev : (t.move (-b)).ev (plQ kt) = evT t b kt := rfl
    rw [hev]
    split <;> rename_i h
    · have hk6 := (hk4.mono hx5).mono hx6
      refine hk6.inst ?_
      refine ⟨kk, ka, kindsOf ws sg b n, pagesOf ws sg b n, i, rfl, hk6, kok.len, by simp only at klen; omega, kok.nd, hi, by rw [hkt]; exact hc5.mono hx6, fun H7 hx7 => ?_⟩
      have := hQ H7 (((hx14.trans hx5).trans hx6).trans hx7)
      have hb0 : brkAt (kindsOf ws sg b n) t b = some i := f1 (by rw [h]; rfl)
      unfold brkOf at this
      rw [hb0] at this
      exact this
    · exact ⟨hx5.trans hx6, f2 (by simpa using h)⟩
  · rintro σ' H5 ⟨x, rfl, hx5, hn⟩
    walk_at "wp"
    have hb0 : brkAt (kindsOf ws sg b n) t b = none := by
      unfold brkAt
      rw [← hn]
      congr 1
      rw [hv3]
      simp
    have := hQ H5 (hx14.trans hx5)
    unfold brkOf at this
    rw [hb0] at this
    exact this
end DR

set_option Elab.async false
set_option linter.all false
set_option maxRecDepth 100000
set_option maxHeartbeats 4000000
namespace DR
open PySem PySem.Spec PyProof.Rows L2
open PySem.W (Frag)
local macro_rules
  | `(tactic| walk_at "wp") => `(tactic| try simp only [L2.start, List.map_cons, List.map_nil, List.length_cons, List.length_nil, List.replicate, Nat.reduceAdd, Nat.reduceSub, List.cons_append, List.nil_append, List.append_nil, List.set_cons_succ, List.set_cons_zero,
      List.getElem?_cons_succ, List.getElem?_cons_zero, ap_K1, ap_K2, ap_seq, ap_next, ap_asg, ap_name, ap_ret, ap_retN, ap_drop, ap_ifS, ap_c, ap_var, ap_op, ap_un, ap_chain, ap_test, ap_B, ap_and, ap_or, ap_not, ap_yes, ap_andV, ap_orV, ap_notV, ap_if, ap_nil, ap_cons, ap_cb, ap_lst, ap_tup, ap_bm, ap_bm0, ap_m1, ap_call, ap_sl, ap_part, ap_nopart, ap_rI0, ap_rI, ap_rU, ap_eqI, ap_neI, ap_eqS, ap_neS, ap_eqB, ap_neB, ap_fld, ap_tup_, ap_gcons, ap_gnil, ap_gsub, ap_for, ap_lc, ap_rng1, ap_rng2, ap_list, ap_itup, ap_str, ap_enum, ap_zip, ap_inSg, ap_ninSg, ap_addS, ap_sfld, ap_meth, ap_prop, ap_make, ap_smeth, ap_never, ap_ost, ap_callS, ap_mko, ap_enumS, ap_zipS, ap_rng3, ap_listRg, ap_dnin, ap_din, ap_dput, ap_gfld, ap_kinds, ap_callO, ap_notN, decide_true, decide_false, Bool.not_true, Bool.not_false,  ap_leS, lit_alpha, tg1, tg2, tg3, tg4, tg5, tg6, eq_self, ap_revL,  ap_rg1, ap_cval, len_abcdef, exists_and_left, exists_and_right, exists_eq_left', and_assoc, exists_eq_left, exists_eq, exists_eq', Option.some.injEq, V.int.injEq, V.str.injEq, V.ref.injEq, V.bl.injEq, V.ty.injEq, List.cons.injEq, and_true, true_and, decide_eq_true_eq, Bool.not_eq_true', decide_eq_false_iff_not, Bool.false_eq_true, if_true, if_false, reduceCtorEq, false_and, and_false, or_false, false_or, or_true, true_or, not_true_eq_false, not_false_eq_true, Int.zero_add, lit_nil, lit_a, tx_len, one_tx, tx_app, tx_inj, exists_const, forall_const])
  | `(tactic| walk_at "om") => `(tactic| repeat (refine ⟨by first | omega | exact szI, ?_⟩))

def sp_keeps_window (K : Frag) : Sp := fun vs H Q _ => ∃ (a : Addr) (ws : List (List Nat)) (sg : List Nat) (b : Int) (n : Nat) (s : Addr) (t : Tr), vs = [.ref a, .str (tx sg), .int b, .int (b + n), .ref s] ∧ CalAt K H a ws ∧ SayAt K H s t ∧ (ws.map List.length).sum ≤ 1000 ∧ sg.length ≤ 1000 ∧ t.size ≤ 1000 ∧ n ≤ 5 ∧ badAt ws sg = none ∧ outAt b (b + n) t = none ∧ ∀ H', Ex H H' → Q (.bl true) H'
theorem sc_keeps_window : FnScope ["calendar", "signs", "begin", "end", "saying", "low", "high"] ["calendar", "signs", "begin", "end", "saying"] (defScope s_keeps_window) := ⟨rfl, rfl, rfl, by decide +kernel, rfl, by decide +kernel, by decide +kernel⟩
theorem b_keeps_window {K : Frag} {mg : Str → Option Value} (c : Wd K mg) : Binds K (fdOf K (gA K "keeps_window")) ["calendar", "signs", "begin", "end", "saying"] [] := c.f_keeps_window.binds (fun _ _ _ _ _ _ us hl => match us, hl with | [_, _, _, _, _], _ => rfl)
theorem ok_keeps_window {P : Program} {w : World} {K : Frag} {mg : Str → Option Value} {base : Heap} (c : Wd K mg) : FnOk P w K mg base (L2.CX P w) 5 (gA K "keeps_window") (fdOf K (gA K "keeps_window")) ["calendar", "signs", "begin", "end", "saying"] (sp_keeps_window K) := by
  refine c.f_keeps_window.okX sc_keeps_window (fun vs H Q E h => ?_) (fun cdv A outer s H vs Q E hr h => ⟨_, (pss_cons (ps_try_only rfl rfl ⟨rfl, by decide, Or.inl c.g_RollError⟩ (takes_of rfl rfl rfl rfl) (fun W pn xe tk hp => (pss_cons (ps_expr (pe_callS (ok_check_signs c) (hr.mono (by decide)) rfl c.g_check_signs c.f_check_signs.kp (b_check_signs c) (fun σ => passAt tk σ) (pa_cons (pv 0) (pa_cons (pv 1) pa_nil))))
      (pss_one (ps_expr (pe_callS (ok_check_window c) (hr.mono (by decide)) rfl c.g_check_window c.f_check_window.kp (b_check_window c) (fun σ => passAt tk σ) (pa_cons (pv 2) (pa_cons (pv 3) pa_nil))))))) (fun ea oe cls ed pn hz hd => (pss_one (ps_ret pe_bl))))
      (pss_one (ps_ret (pe_callB (cr_all rfl) (by rfl) c.z_all (by decide +kernel) (pa_cons (pe_lc (own := [("low", 5), ("high", 6)]) rfl sc_keeps_window.nd (pi_list (pe_meth0 (pv 4) c.c_Saying c.m_Saying_stretches (ok_Saying_stretches c) (hr.mono (by decide)) (b_Saying_stretches c) .nil passL)) (blkOk_by (own := [("low", 5), ("high", 6)]) (N := ["calendar", "signs", "begin", "end", "saying", "low", "high"]) (sc := defScope s_keeps_window) (by decide +kernel)) (fun _ _ _ _ _ => (pg_tupK (n := 2) rfl (pgs_cons (pg_name (i := 5) sc_keeps_window.nd rfl (Or.inl rfl)) (pgs_cons (pg_name (i := 6) sc_keeps_window.nd rfl (Or.inl rfl)) pgs_nil)))) (fun _ _ _ _ _ => pts_nil) (fun _ _ _ _ _ => (pe_and (pe_cmpR op_le (pv 2) (pv 5) (nomark _)) (pe_one (pe_cmpR op_le (pv 6) (pv 3) (nomark _)))))) pa_nil))))), ?_⟩)
  · obtain ⟨a, ws, sg, b, n, s', t, rfl, ha, hs, hsum, hsl, hts, hn, hbad, hin, hQ⟩ := h
    rfl
  obtain ⟨a, ws, sg, b, n, s', t, rfl, ha, hs, hsum, hsl, hts, hn, hbad, hin, hQ⟩ := h
  walk_at "wp"
  refine ⟨a, ws, sg, rfl, ha, hsum, hsl, fun _ H1 hx1 => ?_, fun i hi => by rw [hbad] at hi; cases hi⟩
  refine ⟨b, b + n, rfl, fun _ _ => ?_, fun h => absurd h (by omega), fun _ h => absurd h (by omega)⟩
  walk_at "wp"
  have hs1 := hs.mono hx1
  refine hs1.inst (by decide) ⟨s', t, rfl, hs1, hts, fun q H2 hq hx2 hR => ?_⟩
  obtain ⟨vs, hv1, hv2, hv3, hv4⟩ := hR.seq (K := K)
  have hpl := prs_le (post t)
  rw [post_len] at hpl
  refine ⟨q, rfl, ⟨vs, hv1⟩, fun D hD => ?_⟩
  refine lc_V walk_list (fun _ => true) (fun i => .bl true) (fun H' e => Evl.ex_l e hv1) (by omega) hD ?_ ?_
  · rintro i v H3 H4 hi hx3 ⟨rfl, hv⟩ Q' QN q1 q2
    obtain ⟨⟨b', e'⟩, a0, e1, rfl, e3⟩ := hv4 i v hv
    have e3 := PrAt.monoD.to _ _ _ _ hx3 e3
    have hb := outAt_none.mp hin (b', e') (List.mem_of_getElem? e1)
    simp only at hb
    simp only [wipe]
    walk_at "wp"
    refine ⟨_, Evl.st_of e3, rfl, _, _, rfl, _, _, rfl, rfl, ?_⟩
    walk_at "wp"
    rw [if_pos hb.1]
    rw [decide_eq_true hb.2]
    exact q1 _ (Evl.Ex.refl _) rfl
  · intro H3 hx3 hD3
    refine all_ok hD3 ?_
    rw [List.all_eq_true.mpr (fun _ _ => rfl)]
    exact hQ _ ((hx1.trans hx2).trans hx3)
def sp_PageCertificate_init (K : Frag) : Sp := fun vs H Q _ => ∃ (x dx a s : Addr) (sg p : List Nat) (b e : Int), vs = [.ref x, .ref a, .str (tx sg), .int b, .int e, .ref s, .str (tx p)] ∧ H x = some (.ins (gA K "PageCertificate") dx []) ∧ ∀ H', ExB x H H' → PcAt K H' x a sg b e s p → Q .non H'
theorem sc_PageCertificate_init : FnScope ["self", "calendar", "signs", "begin", "end", "saying", "page"] ["self", "calendar", "signs", "begin", "end", "saying", "page"] (defScope s_PageCertificate_init) := ⟨rfl, rfl, rfl, by decide +kernel, rfl, by decide +kernel, by decide +kernel⟩
theorem b_PageCertificate_init {K : Frag} {mg : Str → Option Value} (c : Wd K mg) : Binds K (fdOf K (mA K "PageCertificate" "__init__")) ["self", "calendar", "signs", "begin", "end", "saying", "page"] [] := c.f_PageCertificate_init.binds (fun _ _ _ _ _ _ us hl => match us, hl with | [_, _, _, _, _, _, _], _ => rfl)
theorem ok_PageCertificate_init {P : Program} {w : World} {K : Frag} {mg : Str → Option Value} {base : Heap} (c : Wd K mg) : FnOk P w K mg base (L2.CX P w) 1 (mA K "PageCertificate" "__init__") (fdOf K (mA K "PageCertificate" "__init__")) ["self", "calendar", "signs", "begin", "end", "saying", "page"] (sp_PageCertificate_init K) := by
  refine c.f_PageCertificate_init.okX sc_PageCertificate_init (fun vs H Q E h => ?_) (fun cdv A outer s H vs Q E hr h => ⟨_, PSs.nox (pss_cons (ps_fld (pv 0) (pv 1) rfl)
      (pss_cons (ps_fld (pv 0) (pv 2) rfl)
      (pss_cons (ps_fld (pv 0) (pv 3) rfl)
      (pss_cons (ps_fld (pv 0) (pv 4) rfl)
      (pss_cons (ps_fld (pv 0) (pv 5) rfl)
      (pss_one (ps_fld (pv 0) (pv 6) rfl))))))), ?_⟩)
  · obtain ⟨x, dx, a, s', sg, p, b, e, rfl, hx, hQ⟩ := h
    rfl
  obtain ⟨x, dx, a, s', sg, p, b, e, rfl, hx, hQ⟩ := h
  walk_at "wp"
  refine sfld_ok hx c.c_PageCertificate c.a_PageCertificate_calendar (by show 0 < 1000; decide) ?_
  rw [putF_nil]
  walk_at "wp"
  refine sfld_up c.c_PageCertificate c.a_PageCertificate_signs ?_ ?_
  · simp
  rw [putF_ne (by decide +kernel), putF_nil]
  walk_at "wp"
  refine sfld_up c.c_PageCertificate c.a_PageCertificate_begin ?_ ?_
  · simp
  rw [putF_ne (by decide +kernel), putF_ne (by decide +kernel), putF_nil]
  walk_at "wp"
  refine sfld_up c.c_PageCertificate c.a_PageCertificate_end ?_ ?_
  · simp
  rw [putF_ne (by decide +kernel), putF_ne (by decide +kernel), putF_ne (by decide +kernel), putF_nil]
  walk_at "wp"
  refine sfld_up c.c_PageCertificate c.a_PageCertificate_saying ?_ ?_
  · simp
  rw [putF_ne (by decide +kernel), putF_ne (by decide +kernel), putF_ne (by decide +kernel), putF_ne (by decide +kernel), putF_nil]
  walk_at "wp"
  refine sfld_up c.c_PageCertificate c.a_PageCertificate_page ?_ ?_
  · simp
  rw [putF_ne (by decide +kernel), putF_ne (by decide +kernel), putF_ne (by decide +kernel), putF_ne (by decide +kernel), putF_ne (by decide +kernel), putF_nil]
  walk_at "wp"
  refine hQ _ (fun y o hy ho => by rw [upd_ne hy]; exact ho) ⟨dx, ?_⟩
  rw [upd_same]
  rfl
def sp_ListCertificate_init (K : Frag) : Sp := fun vs H Q _ => ∃ (x dx a s l : Addr) (sg : List Nat) (ks : List (List Nat)) (b e : Int), vs = [.ref x, .ref a, .str (tx sg), .int b, .int e, .ref s, .ref l] ∧ H x = some (.ins (gA K "ListCertificate") dx []) ∧ RA (CoR K) H l ks ∧ ∀ H', ExB x H H' → LcAt K H' x a sg b e s ks → Q .non H'
theorem sc_ListCertificate_init : FnScope ["self", "calendar", "signs", "begin", "end", "saying", "coats"] ["self", "calendar", "signs", "begin", "end", "saying", "coats"] (defScope s_ListCertificate_init) := ⟨rfl, rfl, rfl, by decide +kernel, rfl, by decide +kernel, by decide +kernel⟩
theorem b_ListCertificate_init {K : Frag} {mg : Str → Option Value} (c : Wd K mg) : Binds K (fdOf K (mA K "ListCertificate" "__init__")) ["self", "calendar", "signs", "begin", "end", "saying", "coats"] [] := c.f_ListCertificate_init.binds (fun _ _ _ _ _ _ us hl => match us, hl with | [_, _, _, _, _, _, _], _ => rfl)
theorem ok_ListCertificate_init {P : Program} {w : World} {K : Frag} {mg : Str → Option Value} {base : Heap} (c : Wd K mg) : FnOk P w K mg base (L2.CX P w) 1 (mA K "ListCertificate" "__init__") (fdOf K (mA K "ListCertificate" "__init__")) ["self", "calendar", "signs", "begin", "end", "saying", "coats"] (sp_ListCertificate_init K) := by
  refine c.f_ListCertificate_init.okX sc_ListCertificate_init (fun vs H Q E h => ?_) (fun cdv A outer s H vs Q E hr h => ⟨_, PSs.nox (pss_cons (ps_fld (pv 0) (pv 1) rfl)
      (pss_cons (ps_fld (pv 0) (pv 2) rfl)
      (pss_cons (ps_fld (pv 0) (pv 3) rfl)
      (pss_cons (ps_fld (pv 0) (pv 4) rfl)
      (pss_cons (ps_fld (pv 0) (pv 5) rfl)
      (pss_one (ps_fld (pv 0) (pe_callTy call_listV (by rfl) c.z_list (by decide +kernel) (pa_cons (pv 6) pa_nil)) rfl))))))), ?_⟩)
  · obtain ⟨x, dx, a, s', l, sg, ks, b, e, rfl, hx, hl, hQ⟩ := h
    rfl
  obtain ⟨x, dx, a, s', l, sg, ks, b, e, rfl, hx, hl, hQ⟩ := h
  walk_at "wp"
  refine sfld_ok hx c.c_ListCertificate c.a_ListCertificate_calendar (by show 0 < 1000; decide) ?_
  rw [putF_nil]
  walk_at "wp"
  refine sfld_up c.c_ListCertificate c.a_ListCertificate_signs ?_ ?_
  · simp
  rw [putF_ne (by decide +kernel), putF_nil]
  walk_at "wp"
  refine sfld_up c.c_ListCertificate c.a_ListCertificate_begin ?_ ?_
  · simp
  rw [putF_ne (by decide +kernel), putF_ne (by decide +kernel), putF_nil]
  walk_at "wp"
  refine sfld_up c.c_ListCertificate c.a_ListCertificate_end ?_ ?_
  · simp
  rw [putF_ne (by decide +kernel), putF_ne (by decide +kernel), putF_ne (by decide +kernel), putF_nil]
  walk_at "wp"
  refine sfld_up c.c_ListCertificate c.a_ListCertificate_saying ?_ ?_
  · simp
  rw [putF_ne (by decide +kernel), putF_ne (by decide +kernel), putF_ne (by decide +kernel), putF_ne (by decide +kernel), putF_nil]
  have hl1 := hl.coUpdI (o := .ins (gA K "ListCertificate") dx [("_calendar", .ref a), ("_signs", .str (tx sg)), ("_begin", .int b), ("_end", .int e), ("_saying", .ref s')]) hx (by rfl)
  have e0 : ExB x H (upd H x (.ins (gA K "ListCertificate") dx [("_calendar", .ref a), ("_signs", .str (tx sg)), ("_begin", .int b), ("_end", .int e), ("_saying", .ref s')])) := fun y o hy ho => by rw [upd_ne hy]; exact ho
  have hx1 := upd_same (H := H) (a := x) (o := .ins (gA K "ListCertificate") dx [("_calendar", .ref a), ("_signs", .str (tx sg)), ("_begin", .int b), ("_end", .int e), ("_saying", .ref s')])
  revert hl1 e0 hx1
  generalize upd H x (.ins (gA K "ListCertificate") dx [("_calendar", .ref a), ("_signs", .str (tx sg)), ("_begin", .int b), ("_end", .int e), ("_saying", .ref s')]) = H1
  intro hl1 e0 hx1
  obtain ⟨ps, e1, e2, e3⟩ := hl1
  walk_at "wp"
  refine list_l (Evl.sq_of e2) fun q hq => ?_
  have hqx : q ≠ x := by rintro rfl; rw [hx1] at hq; cases hq
  have hR : RA (CoR K) (upd H1 q (.lst (ps.map fun q => V.ref q.2))) q ks := ⟨ps, e1, upd_same, fun r hr => CoR.monoD.to _ _ _ _ (Evl.Ex.new hq) (e3 r hr)⟩
  have hx2 : upd H1 q (.lst (ps.map fun q => V.ref q.2)) x = some (.ins (gA K "ListCertificate") dx [("_calendar", .ref a), ("_signs", .str (tx sg)), ("_begin", .int b), ("_end", .int e), ("_saying", .ref s')]) := by rw [upd_ne (Ne.symm hqx)]; exact hx1
  refine sfld_ok hx2 c.c_ListCertificate c.a_ListCertificate_coats (by show 5 < 1000; decide) ?_
  rw [putF_ne (by decide +kernel), putF_ne (by decide +kernel), putF_ne (by decide +kernel), putF_ne (by decide +kernel), putF_ne (by decide +kernel), putF_nil]
  refine hQ _ (fun y o hy ho => by rw [upd_ne hy, upd_ne (ne_of_none (e0 _ _ hy ho) hq)]; exact e0 _ _ hy ho) ⟨dx, q, by rw [upd_same]; rfl, hR.coUpdI hx2 (by rfl)⟩
theorem mk_pc {K : Frag} {a s : Addr} {sg p : List Nat} {b e : Int} {H : Hp} {Q : Addr → Hp → Prop} {E : XK} (q : ∀ x H', H x = none → Ex H H' → PcAt K H' x a sg b e s p → Q x H') :
    rMake (gA K "PageCertificate") (fun x H2 => sp_PageCertificate_init K (.ref x :: ([.ref a, .str (tx sg), .int b, .int e, .ref s, .str (tx p)] ++ [])) H2 (fun v H3 => v = .non ∧ Q x H3) E) H := by
  intro x dx hx hdx hne
  have hE : Ex H (upd (upd H dx (.own x)) x (.ins (gA K "PageCertificate") dx [])) := (Evl.Ex.new hdx).mut hx
  exact ⟨x, dx, a, s, sg, p, b, e, rfl, upd_same, fun H' e h => ⟨rfl, q x H' hx (fun b o ho => e b o (ne_of_none ho hx) (hE b o ho)) h⟩⟩
theorem mk_lc {K : Frag} {a s l : Addr} {sg : List Nat} {ks : List (List Nat)} {b e : Int} {H : Hp} {Q : Addr → Hp → Prop} {E : XK} (hl : RA (CoR K) H l ks) (q : ∀ x H', H x = none → Ex H H' → LcAt K H' x a sg b e s ks → Q x H') :
    rMake (gA K "ListCertificate") (fun x H2 => sp_ListCertificate_init K (.ref x :: ([.ref a, .str (tx sg), .int b, .int e, .ref s, .ref l] ++ [])) H2 (fun v H3 => v = .non ∧ Q x H3) E) H := by
  intro x dx hx hdx hne
  have hE : Ex H (upd (upd H dx (.own x)) x (.ins (gA K "ListCertificate") dx [])) := (Evl.Ex.new hdx).mut hx
  exact ⟨x, dx, a, s, l, sg, ks, b, e, rfl, upd_same, hl.mono CoR.monoD.to hE, fun H' e h => ⟨rfl, q x H' hx (fun b o ho => e b o (ne_of_none ho hx) (hE b o ho)) h⟩⟩
def sp_decide (K : Frag) : Sp := fun vs H Q E => ∃ (a : Addr) (ws : List (List Nat)) (sg : List Nat) (b e : Int) (s : Addr) (t : Tr), BrkPre K vs H E a ws sg b e s t ∧
  (refusal ws sg b e t = none → ∃ n : Nat, e = b + n ∧ SgOk ws sg b n ∧ ∀ x H', H x = none → Ex H H' → (match brkOf (kindsOf ws sg b n) (pagesOf ws sg b n) t b with | some p => PcAt K H' x a sg b e s p | none => LcAt K H' x a sg b e s (kindsOf ws sg b n)) → Q (.ref x) H')
theorem sc_decide : FnScope ["calendar", "signs", "begin", "end", "saying", "page"] ["calendar", "signs", "begin", "end", "saying"] (defScope s_decide) := ⟨rfl, rfl, rfl, by decide +kernel, rfl, by decide +kernel, by decide +kernel⟩
theorem b_decide {K : Frag} {mg : Str → Option Value} (c : Wd K mg) : Binds K (fdOf K (gA K "decide")) ["calendar", "signs", "begin", "end", "saying"] [] := c.f_decide.binds (fun _ _ _ _ _ _ us hl => match us, hl with | [_, _, _, _, _], _ => rfl)
theorem ok_decide {P : Program} {w : World} {K : Frag} {mg : Str → Option Value} {base : Heap} (c : Wd K mg) : FnOk P w K mg base (L2.CX P w) 9 (gA K "decide") (fdOf K (gA K "decide")) ["calendar", "signs", "begin", "end", "saying"] (sp_decide K) := by
  refine c.f_decide.okX sc_decide (fun vs H Q E h => ?_) (fun cdv A outer s H vs Q E hr h => ⟨_, (pss_cons (ps_set (i := 5) sc_decide.nd rfl (Or.inl rfl) (pe_callS (ok_breaker c) (hr.mono (by decide)) rfl c.g_breaker c.f_breaker.kp (b_breaker c) (fun σ => passAt (takes_of rfl rfl rfl rfl) σ) (pa_cons (pv 0) (pa_cons (pv 1) (pa_cons (pv 2) (pa_cons (pv 3) (pa_cons (pv 4) pa_nil)))))))
      (pss_cons (ps_if (pt_cmpR op_notN1 (pv 5) pe_non (nomark _)) (pss_one (ps_ret (pe_make c.mk_PageCertificate (ok_PageCertificate_init c) (hr.mono (by decide)) rfl c.g_PageCertificate (b_PageCertificate_init c) .nil passL (pa_cons (pv 0) (pa_cons (pv 1) (pa_cons (pv 2) (pa_cons (pv 3) (pa_cons (pv 4) (pa_cons (pv 5) pa_nil))))))))) pss_nil)
      (pss_one (ps_ret (pe_make c.mk_ListCertificate (ok_ListCertificate_init c) (hr.mono (by decide)) rfl c.g_ListCertificate (b_ListCertificate_init c) .nil passL (pa_cons (pv 0) (pa_cons (pv 1) (pa_cons (pv 2) (pa_cons (pv 3) (pa_cons (pv 4) (pa_cons (pe_callTy (call_listKinds c (hr.mono (by decide)) (by decide) c.m_Kinds_iter c.m_Kinds_len (ok_Kinds_len c) (b_Kinds_len c)) (by rfl) c.z_list (by decide +kernel) (pa_cons (pe_make c.mk_Kinds (ok_Kinds_init c) (hr.mono (by decide)) rfl c.g_Kinds (b_Kinds_init c) .nil passL (pa_cons (pv 0) (pa_cons (pv 1) (pa_cons (pv 2) (pa_cons (pv 3) pa_nil))))) pa_nil)) pa_nil))))))))))), ?_⟩)
  · obtain ⟨a, ws, sg, b, e, s', t, ⟨rfl, ha, hs, hsum, hsl, hts, hle, hE⟩, hQ⟩ := h
    rfl
  obtain ⟨a, ws, sg, b, e, s', t, ⟨rfl, ha, hs, hsum, hsl, hts, hle, hE⟩, hQ⟩ := h
  walk_at "wp"
  refine ⟨a, ws, sg, b, e, s', t, ⟨rfl, ha, hs, hsum, hsl, hts, hle, hE⟩, fun href => ?_⟩
  obtain ⟨n, rfl, ok, hQ⟩ := hQ href
  refine ⟨n, rfl, ok, fun H1 hx1 => ?_⟩
  have hbad : badAt ws sg = none := by
    unfold refusal at href
    split at href
    · cases href
    · assumption
  revert hQ
  generalize brkOf (kindsOf ws sg b n) (pagesOf ws sg b n) t b = br
  intro hQ
  walk_at "wp"
  cases br with
  | some p =>
    simp only [pageV]
    walk_at "wp"
    refine mk_pc fun x H2 hx hx2 h2 => hQ x H2 (Evl.fresh_back hx1 hx) (hx1.trans hx2) h2
  | none =>
    simp only [pageV]
    walk_at "wp"
    refine mk_kinds (ha.mono hx1) ok hbad fun kk H2 hkk hx2 hk => ?_
    obtain ⟨dx, cc, g, u, v, e1, e2, e3⟩ := hk
    have klen := (kinds_ok (ws := ws) (sg := sg) (b := b) ok.n3).le ok.n3
    obtain ⟨ps, f1, f2, f3⟩ := e2
    refine ⟨kk, dx, cc, _, _, rfl, e1, by rfl, Evl.sq_of f2, ?_, fun q hq => ?_⟩
    · rw [List.length_map, ← List.length_map (f := fun q : List Nat × Addr => q.1) (as := ps), f1]
      simp only at klen
      omega
    have hR : RA (CoR K) (upd H2 q (.lst (ps.map fun q => V.ref q.2))) q (kindsOf ws sg b n) := ⟨ps, f1, upd_same, fun r hr => CoR.monoD.to _ _ _ _ (Evl.Ex.new hq) (f3 r hr)⟩
    refine mk_lc hR fun x H3 hx hx3 h3 => hQ x H3 ?_ (((hx1.trans hx2).trans (Evl.Ex.new hq)).trans hx3) h3
    exact Evl.fresh_back ((hx1.trans hx2).trans (Evl.Ex.new hq)) hx
end DR

set_option Elab.async false
set_option linter.all false
set_option maxRecDepth 100000
set_option maxHeartbeats 1000000
/-! the two defs that say super() -/
namespace DR
open PySem PySem.Spec PyProof.Rows L2
open PySem.W (Frag)
structure SupF (K : Frag) (C f : Addr) (name qual : Str) (st : Stmt) (fd : FuncData) (oc : Value) (od : Option Addr) (kV doc pm : Value) (an : Option Addr) (cda cc : Addr) (ct : Value) (osl : Array (Option Value)) : Prop where
  fd_ : fd = PySem.W.fnX name qual (defArgs st) (defBody st) (defScope st) [("__class__", cc)] .none kV doc pm an (.ref cda) ct
  at_ : K.lookup f = some ⟨oc, od, .func fd, osl⟩
  code : PySem.W.codeIn K (.ref cda) qual = true
  file : ∃ (ccl : Value) (cdd : Option Addr) (vs : Array Value) (ccs : Array (Option Value)) (tf : Tok), K.lookup cda = some ⟨ccl, cdd, .fields vs, ccs⟩ ∧ vs[2]? = some (.str "/claim/cut.py" tf)
  cell : ∃ (cl : Value) (cld : Option Addr) (csl : Array (Option Value)), K.lookup cc = some ⟨cl, cld, .cell (some (.ref C)), csl⟩
  kp : PySem.W.keepIn K (.ref f) = true
theorem supF_of {K : Frag} {c : Str} {name : Str} {st : Stmt} (h1 : superB c K = true) (h2 : fnV K (mA K c "claim") = some (name, c ++ ".claim", defArgs st, .stmts (defBody st), defScope st, mainGlobals, .none, builtinsNs)) :
    ∃ oc od kV doc pm an cda cc ct osl, SupF K (gA K c) (mA K c "claim") name (c ++ ".claim") st (fdOf K (mA K c "claim")) oc od kV doc pm an cda cc ct osl := by
  unfold superB at h1
  unfold fnV at h2
  cases q : K.lookup (mA K c "claim") with
  | none => rw [q] at h1; cases h1
  | some o =>
    rw [q] at h1 h2
    obtain ⟨oc, od, dt, osl⟩ := o
    cases dt with
    | func fd =>
      obtain ⟨kp, h3⟩ := He.ba h1
      obtain ⟨isf, h4⟩ := He.ba h3
      have hfd : fdOf K (mA K c "claim") = fd := by
        unfold fdOf
        rw [q]
      obtain ⟨n1, n2, n3, n4, n5, n6, n7, n8, n9, n10, n11, n12, n13, n14, n15⟩ := fd
      have e2 : (some (n1, n2, n3, n4, n5, n6, n8, n15) : FnV) = some (name, c ++ ".claim", defArgs st, .stmts (defBody st), defScope st, mainGlobals, .none, builtinsNs) := h2
      simp only [Option.some.injEq, Prod.mk.injEq] at e2
      obtain ⟨g1, g2, g3, g4, g5, g6, g7, g8⟩ := e2
      subst g1 g2 g3 g4 g5 g6 g7 g8
      rw [hfd]
      cases n13 with
      | ref cda =>
        match n7, h4 with
        | [(x, cc)], h4 =>
          obtain ⟨k1, h5⟩ := He.ba h4
          obtain ⟨h6, h7⟩ := He.ba h5
          have k1 := of_decide_eq_true k1
          subst k1
          cases q1 : K.lookup cda with
          | none => rw [q1] at h6; cases h6
          | some o1 =>
            rw [q1] at h6
            obtain ⟨c1, c2, dt1, c4⟩ := o1
            cases dt1 with
            | fields vs =>
              simp only at h6
              split at h6
              · rename_i v0 n tn f tf rest hvs
                obtain ⟨k2, k3⟩ := He.ba h6
                have k2 := of_decide_eq_true k2
                have k3 := of_decide_eq_true k3
                cases q2 : K.lookup cc with
                | none => rw [q2] at h7; cases h7
                | some o2 =>
                  rw [q2] at h7
                  obtain ⟨d1, d2, dt2, d4⟩ := o2
                  cases dt2 with
                  | cell ov =>
                    cases ov with
                    | none => cases h7
                    | some u =>
                      cases u with
                      | ref D =>
                        have k4 : D = gA K c := of_decide_eq_true h7
                        subst k4
                        refine ⟨oc, od, n9, n10, n11, n12, cda, cc, n14, osl, rfl, q, ?_, ⟨c1, c2, vs, c4, tf, q1, ?_⟩, ⟨d1, d2, d4, q2⟩, kp⟩
                        · simp only [PySem.W.codeIn, q1, hvs, k2, beq_self_eq_true]
                        · have : vs.toList[2]? = some (.str f tf) := by rw [hvs]; rfl
                          rw [k3] at this
                          simpa using this
                      | _ => cases h7
                  | _ => cases h7
              · cases h6
            | _ => cases h6
        | [], h4 => cases h4
        | _ :: _ :: _, h4 => cases h4
      | _ => cases h4
    | _ => cases h1
theorem supF_binds {K : Frag} {C f : Addr} {name qual : Str} {st : Stmt} {fd : FuncData} {oc : Value} {od : Option Addr} {kV doc pm : Value} {an : Option Addr} {cda cc : Addr} {ct : Value} {osl : Array (Option Value)} {ps : List Str} (F : SupF K C f name qual st fd oc od kV doc pm an cda cc ct osl)
    (h : ∀ us : List Value, us.length = ps.length → bindArgs (PySem.W.fnX name qual (defArgs st) (defBody st) (defScope st) [("__class__", cc)] .none kV doc pm an (.ref cda) ct) ⟨us, []⟩ = pure (ps.zip us)) : Binds K fd ps [] := by
  rw [F.fd_]
  exact .all h
structure MainOk (P : Program) : Prop where
  file : P.main.file = "/claim/cut.py"
  top : (P.main.scope.names.lookup ("super" : Str)).isSome = false
def supN (st : Stmt) (name qual : Str) (cda cc : Addr) : NdefX.NF := ⟨name, qual, defArgs st, defBody st, defScope st, [("__class__", cc)], cda⟩
section
variable {P : Program} {w : World} {K : Frag} {mg : Str → Option Value} {base : Heap} {C f f2 : Addr} {name qual : Str} {st : Stmt} {fd : FuncData} {oc : Value} {od : Option Addr} {kV doc pm : Value} {an : Option Addr} {cda cc : Addr} {ct : Value} {osl : Array (Option Value)}
def spSup (C : Addr) (t : Str) : Sp := fun vs H Q _ => ∃ x dx fs, vs = [.ref x] ∧ H x = some (.ins C dx fs) ∧ Q (.str t) H
/-- a def whose body is «return super().m() + text» -/
theorem sup_ok {p1 p2 p3 p4 p5 p6 : Pos} {tail : Str} {r : Expr} {m : Str} {t2 : Str} {k : Nat} (F : SupF K C f name qual st fd oc od kV doc pm an cda cc ct osl) (M : MainOk P) (hz : mg "super" = none)
    (hb : defBody st = [.Return (some (.BinOp (.Call (.Attribute (.Call (.Name "super" p1) [] [] p2) m p3) [] [] p4) .Add r p5)) p6]) {ar : Arg} (hargs : ((defArgs st).posonlyargs ++ (defArgs st).args).head? = some ar) (har : ar.arg = "self")
    (S : NdefX.NScope ["self", "__class__"] ["self"] ["__class__"] (defScope st)) (hsu : (defScope st).names.lookup ("super" : Str) = some .globalImplicit)
    (hsup : PySem.W.ks_superIn K C C m = some (some (.ref f2))) (hmro : PySem.W.mroIn K C (.ref C) = some true) (hno : PySem.W.nsIn K cStatics "thirdparty.any" = some none) (hic : PySem.W.isClsIn K C = true)
    (hm : (m == ("__class__" : Str)) = false) (he : ∀ X : Cx, PE X r (tC (.str tail))) (hsz : t2.length + tail.length ≤ sizeLine) {fd2 : FuncData} (F2 : FnOk P w K mg base (L2.CX P w) k f2 fd2 ["self"] (spSup C t2)) (b2 : Binds K fd2 ["self"] []) (hf2 : PySem.W.fnIn K f2 = true) (ht2 : PySem.W.typeIn K (.ref f2) = some (.type "function"))
    (hcall : ∀ env : Env, eval (.Call (.Attribute (.Call (.Name "super" p1) [] [] p2) m p3) [] [] p4) env = (do
      let ov ← attributeBase (.Call (.Name "super" p1) [] [] p2) m env (eval (.Call (.Name "super" p1) [] [] p2) env)
      standAt p3.atName
      let (f, first) ← holding [ov] (getMethod ov m (pure false))
      callWith p4 f first (backTo p4 (starEach [] env)) [])) :
    FnOk P w K mg base (L2.CX P w) (k + 2) f fd ["self"] (spSup C (t2 ++ tail)) := by
  refine ⟨fun vs H Q E h => ?_, fun A outer s H args us vs Q E hr e0 hbd rv h => ?_⟩
  · obtain ⟨x, dx, fs, rfl, _⟩ := h
    rfl
  obtain ⟨x, dx, fs, rfl, hx, hq⟩ := h
  obtain ⟨u, rfl, ru⟩ := rv.one
  cases ru
  have lk := F.at_
  have hfd := F.fd_
  subst hfd
  have KX : K.In s.heap := e0.mod.kin.keeps fun b o e => (e0.bs b o e).1
  have lim : s.heap.NoLimit := e0.mod.nolimit.keeps fun b o e => (e0.bs b o e).1
  obtain ⟨ccl, cdd, cvs, ccs, tf, hcode, hvs⟩ := F.file
  obtain ⟨kl, kld, ksl, hcell⟩ := F.cell
  have hccH : H cc = none := (e0.bs _ _ (e0.mod.kin _ _ hcell)).2
  refine PySem.ks_codeAny_call_defAt (body := defBody st) hr.depth (KX _ _ lk) rfl lim (PySem.W.codeRec_of KX F.code) rfl hbd S.nocell (fun y hy => ?_) (fun h₁ hns kp => ?_) S.co S.gen S.kind
  · exact S.par _ (List.of_mem_zip hy).1
  have CA : NdefX.CellsAt (supN st name qual cda cc).cl ["__class__"] [some (.ref C)] s.heap H := by
    refine ⟨rfl, fun y c hy => ?_, fun y z c hy hz => ?_, fun i y hy => ?_⟩
    · have hy : List.lookup y [(("__class__" : Str), cc)] = some c := hy
      by_cases e : y == ("__class__" : Str)
      · simp only [List.lookup, e, Option.some.injEq] at hy
        subst hy
        exact ⟨hccH, _, _, KX _ _ hcell, rfl⟩
      · simp only [List.lookup, e] at hy
        cases hy
    · have hy : List.lookup y [(("__class__" : Str), cc)] = some c := hy
      have hz : List.lookup z [(("__class__" : Str), cc)] = some c := hz
      by_cases e : y == ("__class__" : Str)
      · by_cases e2 : z == ("__class__" : Str)
        · rw [eq_of_beq e, eq_of_beq e2]
        · simp only [List.lookup, e2] at hz
          cases hz
      · simp only [List.lookup, e] at hy
        cases hy
    · match i, hy with
      | 0, hy =>
        have hy : ("__class__" : Str) = y := Option.some.inj hy
        subst hy
        refine ⟨cc, rfl, fun v hv => ?_⟩
        have hv : V.ref C = v := Option.some.inj (Option.some.inj hv)
        subst hv
        exact ⟨.ref C, rfl, _, KX _ _ hcell, rfl⟩
  have I : ∀ tk, L2.Inv (NdefX.ncx (L2.CX P w) P w K mg base ["self", "__class__"] (supN st name qual cda cc) f A outer s H E) [] (NdefX.startF ["self", "__class__"] [.ref x] [some (.ref C)]) H { s with heap := h₁, toks := tk } :=
    fun tk => NdefX.inv_startN (us := [.ref x]) (F := supN st name qual cda cc) S hr.hd e0 rfl (.cons rfl .nil) CA hns kp
  have hbody := hb
  rw [hbody]
  refine PySem.ks_wpAt_execs_cons (PySem.ks_wpAt_Return_some (PySem.ks_wpAt_BinOp (PySem.ks_wpAt_MethodCall ?_ (hcall _))))
  have KX1 : K.In h₁ := fun b o e => kp _ _ (KX _ _ e)
  refine PySem.ks_wpAt_super_base (ar := ar) hsu (S.frk _ (by simp)) hm rfl (KX1 _ _ lk) rfl hargs rfl (KX1 _ _ hcode) rfl hvs (by rw [M.file]; rfl) M.top ?_
  obtain ⟨mb, g1, g2⟩ := (I 0).mod.blt
  refine PySem.W.ks_loadName_global S.kind hsu (Calls.loadGlobal_builtin (by exact (I 0).mod.glob.keeps (I 0).bk) hz (by exact g1.keeps (I 0).bk) ((g2 "super" (by decide)).trans (show bootBuiltins "super" = some (.type "super") by kernel_rfl)) ⟨rfl, ?_⟩)
  refine wpAny_loadName_free S.kind (S.frk _ (by simp)) rfl ⟨_, KX1 _ _ hcell, rfl⟩ ?_
  refine wpAny_loadName_local S.kind (by rw [har]; exact S.par _ (by simp)) hns (by rw [har]; rfl) ?_
  have hicl := hic
  unfold PySem.W.isClsIn at hicl
  obtain ⟨cd, hcd⟩ := Option.isSome_iff_exists.mp hicl
  obtain ⟨oD, hD1, hD2⟩ : ∃ oD, h₁.get? C = some oD ∧ oD.data = .cls cd := by
    have hcd := hcd
    unfold PySem.W.clsIn at hcd
    split at hcd
    · rename_i c' d' cd' sl' ho
      cases hcd
      exact ⟨_, KX1 _ _ ho, rfl⟩
    · cases hcd
  refine PySem.ks_wpAny_isType_cls hD1 hD2 ⟨rfl, ?_⟩
  obtain ⟨mA, J, _⟩ := ins_get (I 0).hok hx
  obtain ⟨odx, J, _⟩ := J.look
  have hxC : x ≠ C := PySem.W.ks_ne KX1 J hcd
  refine PySem.ks_wpAny_call_super hD1 hD2 J.at_ J.cls (fun c e => ?_) (PySem.W.looks_mroIn KX1 hmro) (fun h2 hso k2 => ?_)
  · have := J.no
    unfold PySem.W.notCls at this
    rw [e] at this
    exact Bool.noConfusion this
  have KX2 : K.In h2 := fun b o e => k2 _ _ (KX1 _ _ e)
  obtain ⟨of, hof, hofc⟩ : ∃ of, h2.get? f2 = some of ∧ of.cls = .type "function" := by
    have ht' : (K.lookup f2).map (·.cls) = some (.type "function") := ht2
    cases z : K.lookup f2 with
    | none => rw [z] at ht'; cases ht'
    | some of => rw [z] at ht'; exact ⟨of, KX2 _ _ z, Option.some.inj ht'⟩
  have hsup' : PySem.W.alongIn K m ((cd.mro.dropWhile (· != .ref C)).drop 1) = some (some (.ref f2)) := by
    unfold PySem.W.ks_superIn at hsup
    rw [hcd] at hsup
    exact hsup
  refine PySem.ks_wpAny_getMethod_super hso (PySem.W.looks_opaque KX2 hno) (l₀ := cd.mro) (fun A Q E s k q => wpAny_bind ((PySem.W.looks_clsIn KX2 hcd) A _ E s k (wpAny_pure q))) rfl KX2 hsup' hof hofc hxC hm ?_
  have k3 : ∀ b o, h₁.get? b = some o → (h2.push { cls := .type "method", data := .fields #[.ref f2, .ref x] }).get? b = some o := fun b o e => Heap.get?_push_of_some _ (k2 _ _ e)
  have I3 : ∀ tk, L2.Inv (NdefX.ncx (L2.CX P w) P w K mg base ["self", "__class__"] (supN st name qual cda cc) f A outer s H E) [] (NdefX.startF ["self", "__class__"] [.ref x] [some (.ref C)]) H { s with heap := h2.push { cls := .type "method", data := .fields #[.ref f2, .ref x] }, toks := tk } :=
    fun tk => (I 0).kept k3
  refine PySem.W.callWith_M0 (K := K) (self := .ref x) ⟨Heap.get?_push_at rfl rfl, fun b o e => k3 _ _ (KX1 _ _ e)⟩ hf2 ?_
  refine wpAny_call (PySem.W.method_call (Heap.get?_push_at rfl rfl) ?_)
  have hb2 : ∀ tk, BindsTo { s with heap := h2.push { cls := .type "method", data := .fields #[.ref f2, .ref x] }, toks := tk } fd2 ⟨[.ref x], []⟩ ([("self" : Str)].zip [Value.ref x]) := fun tk => by
    have := b2 { s with heap := h2.push { cls := .type "method", data := .fields #[.ref f2, .ref x] }, toks := tk } [.ref x] (I3 tk).kIn rfl
    rwa [List.append_nil] at this
  have hr2 : Room k (A.deeper (NdefX.envF (supN st name qual cda cc) f s.heap.objs.size)) := (hr.mono (by omega : k + 1 ≤ k + 2)).deeper _
  refine codeAny_mono (F2.run _ _ _ H ⟨[.ref x], []⟩ [.ref x] [.ref x] (fun v H' => v = .str t2 ∧ H' = H) E0 hr2 (I3 _).env0 (hb2 _) (.cons rfl .nil) ⟨x, dx, fs, rfl, hx, rfl, rfl⟩) fun rr s4 hrr => ?_
  cases rr with
  | error e => exact False.elim (passL (X := (NdefX.ncx (L2.CX P w) P w K mg base ["self", "__class__"] (supN st name qual cda cc) f A outer s H E).nox) [] _ H _ e s4 ((I3 _).wish _) hrr)
  | ok fl =>
    cases fl with
    | next => exact False.elim hrr
    | brk => exact False.elim hrr
    | cont => exact False.elim hrr
    | ret u =>
      obtain ⟨v, H', I5, rv5, rfl, rfl⟩ := (I3 _).after hrr
      obtain ⟨tk2, rfl⟩ := (show ∃ t, u = Value.str t2 t from rv5)
      have I6 : L2.Inv (NdefX.ncx (L2.CX P w) P w K mg base ["self", "__class__"] (supN st name qual cda cc) f A outer s H' E).nox [] _ H' s4 := I5.wish _
      refine wpAny_mono ((he _).run [] s4 _ H' (fun v H2 => v = .str tail ∧ H2 = H') I6 ⟨rfl, rfl⟩) (fun b s5 hb5 => ?_) (fun _ _ z => False.elim z)
      obtain ⟨v5, H2, I7, rv7, rfl, rfl⟩ := hb5
      refine wpAny_mono (op_addS (X := (NdefX.ncx (L2.CX P w) P w K mg base ["self", "__class__"] (supN st name qual cda cc) f A outer s H2 E).nox) [] s5 _ H2 _ _ _ _ (fun v H3 => v = .str (t2 ++ tail) ∧ H3 = H2) I7 (show RelV (.str t2) _ from ⟨tk2, rfl⟩) rv7 ⟨t2, tail, rfl, rfl, hsz, rfl, rfl⟩) (fun b s6 hb6 => ?_) (fun _ _ z => False.elim z)
      obtain ⟨v6, H3, I8, rv8, rfl, rfl⟩ := hb6
      have J8 := I8.unwish
      exact ⟨_, _, J8.os, J8.bare, J8.base, J8.hok, rv8, hq⟩
end
end DR

set_option Elab.async false
set_option linter.all false
set_option maxRecDepth 100000
set_option maxHeartbeats 4000000
namespace DR
open PySem PySem.Spec PyProof.Rows L2
open PySem.W (Frag)
local macro_rules
  | `(tactic| walk_at "wp") => `(tactic| try simp only [L2.start, List.map_cons, List.map_nil, List.length_cons, List.length_nil, List.replicate, Nat.reduceAdd, Nat.reduceSub, List.cons_append, List.nil_append, List.append_nil, List.set_cons_succ, List.set_cons_zero,
      List.getElem?_cons_succ, List.getElem?_cons_zero, ap_K1, ap_K2, ap_seq, ap_next, ap_asg, ap_name, ap_ret, ap_retN, ap_drop, ap_ifS, ap_c, ap_var, ap_op, ap_un, ap_chain, ap_test, ap_B, ap_and, ap_or, ap_not, ap_yes, ap_andV, ap_orV, ap_notV, ap_if, ap_nil, ap_cons, ap_cb, ap_lst, ap_tup, ap_bm, ap_bm0, ap_m1, ap_call, ap_sl, ap_part, ap_nopart, ap_rI0, ap_rI, ap_rU, ap_eqI, ap_neI, ap_eqS, ap_neS, ap_eqB, ap_neB, ap_fld, ap_tup_, ap_gcons, ap_gnil, ap_gsub, ap_for, ap_lc, ap_rng1, ap_rng2, ap_list, ap_itup, ap_str, ap_enum, ap_zip, ap_inSg, ap_ninSg, ap_addS, ap_sfld, ap_meth, ap_prop, ap_make, ap_smeth, ap_never, ap_ost, ap_callS, ap_mko, ap_enumS, ap_zipS, ap_rng3, ap_listRg, ap_dnin, ap_din, ap_dput, ap_gfld, ap_kinds, ap_callO, ap_notN, decide_true, decide_false, Bool.not_true, Bool.not_false,  ap_leS, lit_alpha, tg1, tg2, tg3, tg4, tg5, tg6, eq_self, ap_revL,  ap_rg1, ap_cval, len_abcdef, exists_and_left, exists_and_right, exists_eq_left', and_assoc, exists_eq_left, exists_eq, exists_eq', Option.some.injEq, V.int.injEq, V.str.injEq, V.ref.injEq, V.bl.injEq, V.ty.injEq, List.cons.injEq, and_true, true_and, decide_eq_true_eq, Bool.not_eq_true', decide_eq_false_iff_not, Bool.false_eq_true, if_true, if_false, reduceCtorEq, false_and, and_false, or_false, false_or, or_true, true_or, not_true_eq_false, not_false_eq_true, Int.zero_add, lit_nil, lit_a, tx_len, one_tx, tx_app, tx_inj, exists_const, forall_const])
  | `(tactic| walk_at "om") => `(tactic| repeat (refine ⟨by first | omega | exact szI, ?_⟩))

def sp_Certificate_claim : Sp := fun vs H Q _ => ∃ x, vs = [x] ∧ Q (.str "claim") H
theorem sc_Certificate_claim : FnScope ["self"] ["self"] (defScope s_Certificate_claim) := ⟨rfl, rfl, rfl, by decide +kernel, rfl, by decide +kernel, by decide +kernel⟩
theorem b_Certificate_claim {K : Frag} {mg : Str → Option Value} (c : Wd K mg) : Binds K (fdOf K (mA K "Certificate" "claim")) ["self"] [] := c.f_Certificate_claim.binds (fun _ _ _ _ _ _ us hl => match us, hl with | [_], _ => rfl)
theorem ok_Certificate_claim {P : Program} {w : World} {K : Frag} {mg : Str → Option Value} {base : Heap} (c : Wd K mg) : FnOk P w K mg base (L2.CX P w) 1 (mA K "Certificate" "claim") (fdOf K (mA K "Certificate" "claim")) ["self"] sp_Certificate_claim := by
  refine c.f_Certificate_claim.okX sc_Certificate_claim (fun vs H Q E h => ?_) (fun cdv A outer s H vs Q E hr h => ⟨_, PSs.nox (pss_one (ps_ret pe_str)), ?_⟩)
  · obtain ⟨x, rfl, hQ⟩ := h
    rfl
  obtain ⟨x, rfl, hQ⟩ := h
  walk_at "wp"
  exact hQ
theorem c_sup {c : Str} {K : Frag} (h : superC c K = true) : PySem.W.isClsIn K (gA K c) = true ∧ PySem.W.mroIn K (gA K c) (.ref (gA K c)) = some true ∧ PySem.W.nsIn K cStatics "thirdparty.any" = some none ∧ PySem.W.ks_superIn K (gA K c) (gA K c) "claim" = some (some (.ref (mA K "Certificate" "claim"))) := by
  obtain ⟨h1, h⟩ := He.ba h
  obtain ⟨h2, h⟩ := He.ba h
  obtain ⟨h3, h4⟩ := He.ba h
  exact ⟨h1, of_decide_eq_true h2, He.eqO_ok h3, He.eqO_ok h4⟩
theorem cl_isf {K : Frag} {mg : Str → Option Value} (c : Wd K mg) : PySem.W.isFn K (.ref (mA K "Certificate" "claim")) = true := c.isf 67 rfl
theorem claim_ok {P : Program} {w : World} {K : Frag} {mg : Str → Option Value} {base : Heap} (c : Wd K mg) (cl : Str) (st : Stmt) {p1 p2 p3 p4 p5 p6 p7 : Pos} {j7 : Nat} {tail : Str} (M : MainOk P) (h1 : superB cl K = true) (h2 : superC cl K = true) (h3 : fnV K (mA K cl "claim") = some (("claim" : Str), cl ++ ".claim", defArgs st, .stmts (defBody st), defScope st, mainGlobals, .none, builtinsNs))
    (hb : defBody st = [.Return (some (.BinOp (.Call (.Attribute (.Call (.Name "super" p1) [] [] p2) "claim" p3) [] [] p4) .Add (.Constant (.str tail) j7 p7) p5)) p6]) {ar : Arg} (hargs : ((defArgs st).posonlyargs ++ (defArgs st).args).head? = some ar) (har : ar.arg = "self")
    (S : NdefX.NScope ["self", "__class__"] ["self"] ["__class__"] (defScope st)) (hsu : (defScope st).names.lookup ("super" : Str) = some .globalImplicit) (hsz : tail.length ≤ 1000)
    (hcall : ∀ env : Env, eval (.Call (.Attribute (.Call (.Name "super" p1) [] [] p2) "claim" p3) [] [] p4) env = (do
      let ov ← attributeBase (.Call (.Name "super" p1) [] [] p2) "claim" env (eval (.Call (.Name "super" p1) [] [] p2) env)
      standAt p3.atName
      let (f, first) ← holding [ov] (getMethod ov "claim" (pure false))
      callWith p4 f first (backTo p4 (starEach [] env)) [])) :
    FnOk P w K mg base (L2.CX P w) 3 (mA K cl "claim") (fdOf K (mA K cl "claim")) ["self"] (spSup (gA K cl) ("claim" ++ tail)) := by
  obtain ⟨oc, od, kV, doc, pm, an, cda, cc, ct, osl, F⟩ := supF_of h1 h3
  obtain ⟨g1, g2, g3, g4⟩ := c_sup h2
  have ty : PySem.W.typeIn K (.ref (mA K "Certificate" "claim")) = some (.type "function") := eq_of_beq (cl_isf c)
  refine sup_ok F M c.z_super hb hargs har S hsu g4 g2 g3 g1 (by decide +kernel) (fun X => pe_str) ?_ ((ok_Certificate_claim c).imp fun vs H Q E h => ?_) (b_Certificate_claim c) (fnIn_of c.f_Certificate_claim) ty hcall
  · refine szI ?_
    have : (Str.ofString "claim").length = 5 := by decide +kernel
    rw [this]
    omega
  · obtain ⟨x, dx, fs, rfl, _, q⟩ := h
    exact ⟨_, rfl, q⟩
theorem v_PageCertificate_claim {K : Frag} {mg : Str → Option Value} (c : Wd K mg) : fnV K (mA K "PageCertificate" "claim") = some (("claim" : Str), ("PageCertificate" : Str) ++ (".claim" : Str), defArgs (inClass (top 68) 1), .stmts (defBody (inClass (top 68) 1)), defScope (inClass (top 68) 1), mainGlobals, .none, builtinsNs) := by
  have h := c.sup 0 rfl
  have e : ((Str.ofString "PageCertificate") ++ (Str.ofString ".claim") : Str) = Str.ofString "PageCertificate.claim" := by decide +kernel
  rw [e]
  exact h
theorem ok_PageCertificate_claim {P : Program} {w : World} {K : Frag} {mg : Str → Option Value} {base : Heap} (c : Wd K mg) (M : MainOk P) : FnOk P w K mg base (L2.CX P w) 3 (mA K "PageCertificate" "claim") (fdOf K (mA K "PageCertificate" "claim")) ["self"] (spSup (gA K "PageCertificate") (("claim" : Str) ++ (": broken" : Str))) := by
  have h1 : superB "PageCertificate" K = true := c.ok2 11 rfl
  have h2 : superC "PageCertificate" K = true := c.ok2 13 rfl
  exact claim_ok c "PageCertificate" (inClass (top 68) 1) M h1 h2 (v_PageCertificate_claim c) rfl rfl rfl (NdefX.nscope_by (by decide +kernel)) (by rfl) (by decide +kernel) (fun env => by rfl)
theorem b_PageCertificate_claim {K : Frag} {mg : Str → Option Value} (c : Wd K mg) : Binds K (fdOf K (mA K "PageCertificate" "claim")) ["self"] [] := by
  have h1 : superB "PageCertificate" K = true := c.ok2 11 rfl
  obtain ⟨oc, od, kV, doc, pm, an, cda, cc, ct, osl, F⟩ := supF_of h1 (v_PageCertificate_claim c)
  exact supF_binds F fun us hl => match us, hl with | [_], _ => rfl
theorem v_ListCertificate_claim {K : Frag} {mg : Str → Option Value} (c : Wd K mg) : fnV K (mA K "ListCertificate" "claim") = some (("claim" : Str), ("ListCertificate" : Str) ++ (".claim" : Str), defArgs (inClass (top 69) 1), .stmts (defBody (inClass (top 69) 1)), defScope (inClass (top 69) 1), mainGlobals, .none, builtinsNs) := by
  have h := c.sup 1 rfl
  have e : ((Str.ofString "ListCertificate") ++ (Str.ofString ".claim") : Str) = Str.ofString "ListCertificate.claim" := by decide +kernel
  rw [e]
  exact h
theorem ok_ListCertificate_claim {P : Program} {w : World} {K : Frag} {mg : Str → Option Value} {base : Heap} (c : Wd K mg) (M : MainOk P) : FnOk P w K mg base (L2.CX P w) 3 (mA K "ListCertificate" "claim") (fdOf K (mA K "ListCertificate" "claim")) ["self"] (spSup (gA K "ListCertificate") (("claim" : Str) ++ (": for all" : Str))) := by
  have h1 : superB "ListCertificate" K = true := c.ok2 12 rfl
  have h2 : superC "ListCertificate" K = true := c.ok2 14 rfl
  exact claim_ok c "ListCertificate" (inClass (top 69) 1) M h1 h2 (v_ListCertificate_claim c) rfl rfl rfl (NdefX.nscope_by (by decide +kernel)) (by rfl) (by decide +kernel) (fun env => by rfl)
theorem b_ListCertificate_claim {K : Frag} {mg : Str → Option Value} (c : Wd K mg) : Binds K (fdOf K (mA K "ListCertificate" "claim")) ["self"] [] := by
  have h1 : superB "ListCertificate" K = true := c.ok2 12 rfl
  obtain ⟨oc, od, kV, doc, pm, an, cda, cc, ct, osl, F⟩ := supF_of h1 (v_ListCertificate_claim c)
  exact supF_binds F fun us hl => match us, hl with | [_], _ => rfl
end DR

set_option Elab.async false
set_option linter.all false
set_option maxRecDepth 100000
set_option maxHeartbeats 4000000
namespace DR
open PySem PySem.Spec PyProof.Rows L2
open PySem.W (Frag)
local macro_rules
  | `(tactic| walk_at "wp") => `(tactic| try simp only [L2.start, List.map_cons, List.map_nil, List.length_cons, List.length_nil, List.replicate, Nat.reduceAdd, Nat.reduceSub, List.cons_append, List.nil_append, List.append_nil, List.set_cons_succ, List.set_cons_zero,
      List.getElem?_cons_succ, List.getElem?_cons_zero, ap_K1, ap_K2, ap_seq, ap_next, ap_asg, ap_name, ap_ret, ap_retN, ap_drop, ap_ifS, ap_c, ap_var, ap_op, ap_un, ap_chain, ap_test, ap_B, ap_and, ap_or, ap_not, ap_yes, ap_andV, ap_orV, ap_notV, ap_if, ap_nil, ap_cons, ap_cb, ap_lst, ap_tup, ap_bm, ap_bm0, ap_m1, ap_call, ap_sl, ap_part, ap_nopart, ap_rI0, ap_rI, ap_rU, ap_eqI, ap_neI, ap_eqS, ap_neS, ap_eqB, ap_neB, ap_fld, ap_tup_, ap_gcons, ap_gnil, ap_gsub, ap_for, ap_lc, ap_rng1, ap_rng2, ap_list, ap_itup, ap_str, ap_enum, ap_zip, ap_inSg, ap_ninSg, ap_addS, ap_sfld, ap_meth, ap_prop, ap_make, ap_smeth, ap_never, ap_ost, ap_callS, ap_mko, ap_enumS, ap_zipS, ap_rng3, ap_listRg, ap_dnin, ap_din, ap_dput, ap_gfld, ap_kinds, ap_callO, ap_notN, decide_true, decide_false, Bool.not_true, Bool.not_false,  ap_leS, lit_alpha, tg1, tg2, tg3, tg4, tg5, tg6, eq_self, ap_revL,  ap_rg1, ap_cval, len_abcdef, exists_and_left, exists_and_right, exists_eq_left', and_assoc, exists_eq_left, exists_eq, exists_eq', Option.some.injEq, V.int.injEq, V.str.injEq, V.ref.injEq, V.bl.injEq, V.ty.injEq, List.cons.injEq, and_true, true_and, decide_eq_true_eq, Bool.not_eq_true', decide_eq_false_iff_not, Bool.false_eq_true, if_true, if_false, reduceCtorEq, false_and, and_false, or_false, false_or, or_true, true_or, not_true_eq_false, not_false_eq_true, Int.zero_add, lit_nil, lit_a, tx_len, one_tx, tx_app, tx_inj, exists_const, forall_const])
  | `(tactic| walk_at "om") => `(tactic| repeat (refine ⟨by first | omega | exact szI, ?_⟩))

theorem PcAt.fld {K : Frag} {mg : Str → Option Value} {H : Hp} {Q : VK} {x a s : Addr} {sg p : List Nat} {b e : Int} {f : Str} {v : V} (c : Wd K mg) (h : PcAt K H x a sg b e s p) (na : NoAttr K (gA K "PageCertificate") f) (l : (CF a sg b e s "_page" (.str (tx p))).lookup f = some v) (q : Q v H) : rFld K f (.ref x) H Q := by
  obtain ⟨dx, h1⟩ := h
  exact fld_ok h1 c.c_PageCertificate na l q
def pcJudge (ws : List (List Nat)) (sg : List Nat) (b : Int) (n : Nat) (t : Tr) (p : List Nat) : Bool := if p.all (fun ch => decide (ch ∈ sg)) = true then !evT t b (pageT ws b n p) else false
theorem anyNin (p sg : List Nat) : ((List.range p.length).any fun i => !decide (p.getD i 0 ∈ sg)) = !(p.all fun ch => decide (ch ∈ sg)) := by
  have e : (List.range p.length).map (fun i => p.getD i 0) = p := by
    refine List.ext_getElem (by simp) fun i h1 h2 => ?_
    simp [List.getElem?_eq_getElem h2]
  conv => rhs; rw [← e]
  rw [List.all_map, List.not_all_eq_any_not]
  rfl
def sp_PageCertificate_judged (K : Frag) : Sp := fun vs H Q _ => ∃ (x a s : Addr) (ws : List (List Nat)) (sg p : List Nat) (b : Int) (n : Nat) (t : Tr), vs = [.ref x] ∧ PcAt K H x a sg b (b + n) s p ∧ CalAt K H a ws ∧ SayAt K H s t ∧ SgOk ws sg b n ∧ badAt ws sg = none ∧ outAt b (b + n) t = none ∧ PlLe t ∧ t.size ≤ 1000 ∧ p.length ≤ 1000 ∧ ∀ H', Ex H H' → Q (.bl (pcJudge ws sg b n t p)) H'
theorem sc_PageCertificate_judged : FnScope ["self", "placed", "sign"] ["self"] (defScope s_PageCertificate_judged) := ⟨rfl, rfl, rfl, by decide +kernel, rfl, by decide +kernel, by decide +kernel⟩
theorem b_PageCertificate_judged {K : Frag} {mg : Str → Option Value} (c : Wd K mg) : Binds K (fdOf K (mA K "PageCertificate" "judged")) ["self"] [] := c.f_PageCertificate_judged.binds (fun _ _ _ _ _ _ us hl => match us, hl with | [_], _ => rfl)
theorem ok_PageCertificate_judged {P : Program} {w : World} {K : Frag} {mg : Str → Option Value} {base : Heap} (c : Wd K mg) : FnOk P w K mg base (L2.CX P w) 8 (mA K "PageCertificate" "judged") (fdOf K (mA K "PageCertificate" "judged")) ["self"] (sp_PageCertificate_judged K) := by
  refine c.f_PageCertificate_judged.okX sc_PageCertificate_judged (fun vs H Q E h => ?_) (fun cdv A outer s H vs Q E hr h => ⟨_, PSs.nox (pss_cons (ps_if (pt_not (pt_val (pe_call (ok_keeps_window c) (hr.mono (by decide)) rfl c.g_keeps_window c.f_keeps_window.kp (b_keeps_window c) .nil passL (pa_cons (pe_fld (pv 0) rfl) (pa_cons (pe_fld (pv 0) rfl) (pa_cons (pe_fld (pv 0) rfl) (pa_cons (pe_fld (pv 0) rfl) (pa_cons (pe_fld (pv 0) rfl) pa_nil)))))))) (pss_one (ps_ret pe_bl)) pss_nil)
      (pss_cons (ps_if (pt_val (pe_callB (cr_any rfl) (by rfl) c.z_any (by decide +kernel) (pa_cons (pe_lc (own := [("sign", 2)]) (g := gName 2) rfl sc_PageCertificate_judged.nd (pi_str (pe_fld (pv 0) rfl)) (blkOk_by (own := [("sign", 2)]) (N := ["self", "placed", "sign"]) (sc := defScope s_PageCertificate_judged) (by decide +kernel)) (fun _ _ _ _ _ => (pg_name (i := 2) sc_PageCertificate_judged.nd rfl (Or.inl rfl))) (fun _ _ _ _ _ => pts_nil) (fun _ _ _ _ _ => (pe_cmpR op_ninSg (pv 2) (pe_fldK (pv 0) rfl) rfl))) pa_nil))) (pss_one (ps_ret pe_bl)) pss_nil)
      (pss_cons (ps_set (i := 1) sc_PageCertificate_judged.nd rfl (Or.inl rfl) (pe_meth (pe_fld (pv 0) rfl) c.c_Saying c.m_Saying_moved (ok_Saying_moved c) (hr.mono (by decide)) (b_Saying_moved c) .nil passL (pa_cons (pe_un un_neg (pe_fld (pv 0) rfl)) pa_nil)))
      (pss_one (ps_ret (pe_not (pe_callO (ok_Saying_call c) (hr.mono (by decide)) (b_Saying_call c) passL c.m_Saying_call.at_ c.m_Saying_call.fn (fnIn_of c.f_Saying_call) (i := 1) rfl (Or.inl rfl) (pa_cons (pe_call (ok_coat_of_entries c) (hr.mono (by decide)) rfl c.g_coat_of_entries c.f_coat_of_entries.kp (b_coat_of_entries c) .nil passL (pa_cons (pe_fld (pv 0) rfl) (pa_cons (pe_fld (pv 0) rfl) (pa_cons (pe_fld (pv 0) rfl) (pa_cons (pe_fld (pv 0) rfl) pa_nil))))) pa_nil)))))))), ?_⟩)
  · obtain ⟨x, a, s', ws, sg, p, b, n, t, rfl, hx, ha, hs, ok, hbad, hin, hle, hts, hpl, hQ⟩ := h
    rfl
  obtain ⟨x, a, s', ws, sg, p, b, n, t, rfl, hx, ha, hs, ok, hbad, hin, hle, hts, hpl, hQ⟩ := h
  walk_at "wp"
  refine hx.fld c c.a_PageCertificate_calendar (by rfl) (hx.fld c c.a_PageCertificate_signs (by rfl) (hx.fld c c.a_PageCertificate_begin (by rfl) (hx.fld c c.a_PageCertificate_end (by rfl) (hx.fld c c.a_PageCertificate_saying (by rfl) ?_))))
  have hn3 := ok.n3
  refine ⟨a, ws, sg, b, n, s', t, rfl, ha, hs, ok.sum, by have := ok.sgl; omega, hts, by omega, hbad, hin, fun H1 hx1 => ?_⟩
  walk_at "wp"
  have hp1 := hx.mono hx1
  refine hp1.fld c c.a_PageCertificate_page (by rfl) ?_
  walk_at "wp"
  intro D hD
  refine lc_V (walk_tx p) (fun _ => true) (fun i => .bl (!decide (p.getD i 0 ∈ sg))) (fun _ _ => trivial) (by omega) hD ?_ ?_
  · rintro i v H2 H3 hi hx2 ⟨rfl, rfl⟩ Q' QN q1 q2
    refine ⟨rfl, ?_⟩
    simp only [wipe]
    walk_at "wp"
    refine (hp1.mono hx2).fld c c.a_PageCertificate_signs (by rfl) ?_
    walk_at "wp"
    exact q1 _ (Evl.Ex.refl _) rfl
  · intro H2 hx2 hD2
    refine any_ok hD2 ?_
    rw [anyNin]
    have hx12 := hx1.trans hx2
    walk_at "wp"
    split <;> rename_i h
    · have : pcJudge ws sg b n t p = false := by
        unfold pcJudge
        rw [if_neg (by simpa using h)]
      rw [← this]
      walk_at "wp"
      exact hQ _ hx12
    · have hall : p.all (fun ch => decide (ch ∈ sg)) = true := by simpa using h
      have hst : ∀ ch ∈ p, standsOf ws ch ≠ [] := fun ch hc => ok.st ch (of_decide_eq_true (List.all_eq_true.mp hall ch hc))
      have hp2 := hx.mono hx12
      walk_at "wp"
      refine hp2.fld c c.a_PageCertificate_saying (by rfl) ?_
      have hs2 := hs.mono hx12
      refine hs2.inst (by decide) ?_
      refine hp2.fld c c.a_PageCertificate_begin (by rfl) ?_
      walk_at "wp"
      refine ⟨s', t, -b, rfl, hs2, hts, fun m H3 hm hx3 hm3 => ?_⟩
      walk_at "wp"
      have hx13 := hx12.trans hx3
      have hp3 := hx.mono hx13
      have hm3' := hm3
      obtain ⟨mdx, mx, hm4, _⟩ := hm3'
      refine ⟨⟨mdx, _, hm4⟩, ?_⟩
      refine hp3.fld c c.a_PageCertificate_calendar (by rfl) (hp3.fld c c.a_PageCertificate_page (by rfl) (hp3.fld c c.a_PageCertificate_begin (by rfl) (hp3.fld c c.a_PageCertificate_end (by rfl) ?_)))
      have hpt := pageT_in hn3 ws b p
      have hptl := (allT_mem hpt.1).2
      refine ⟨a, ws, p, n, b, rfl, ha.mono hx13, ok.w0, by have := ok.w6; omega, hst, by omega, by have := ok.b1; omega, by have := ok.b2; omega, (allT_mem hpt.1).1, hpt.2, fun k H4 hk hx4 hk4 => ?_⟩
      have hm5 := hm3.mono hx4
      refine (sayO hm5 hk4 (by rw [hptl]; exact plOk_move hle hin) (by rw [move_size]; exact hts) (by omega) fun H5 hx5 => ?_).2
      refine ⟨_, rfl, ?_⟩
      have : pcJudge ws sg b n t p = !evT t b (pageT ws b n p) := by
        unfold pcJudge
        rw [if_pos hall]
      have hq := hQ H5 ((hx13.trans hx4).trans hx5)
      rw [this] at hq
      exact hq
end DR

set_option Elab.async false
set_option linter.all false
set_option maxRecDepth 100000
set_option maxHeartbeats 4000000
/-! a table of texts by a comprehension -/
namespace DR
open PySem PySem.Spec PyProof.Rows L2
open PySem.W (Frag)
def LoopD (J : It) (g : TG) (tt : TT) (tk tv : TE) (vs : List Nat) (D : Addr) (σ : L2.St) (H1 : Hp) (Q : VK) : Prop := ∃ W : Nat → Nat → Hp → Prop, (∃ m, W 0 m (upd H1 D (.dK []))) ∧ ∀ i m H, W i m H →
  (J.stop i H ∧ Q (.ref D) H) ∨ (J.go i H ∧ ∃ Nx : Hp → Prop, (∀ H', Nx H' → ∃ m', m' < m ∧ W (i + 1) m' H') ∧ ∀ x H', J.yld i H x H' → g x (wipe σ vs) H' fun σ2 H2 => wipe σ2 vs = wipe σ vs ∧ tt σ2 H2 fun b H3 =>
    if b = true then tk σ2 H3 fun y H4 => tv σ2 H4 fun z H5 => ∃ kvs k, y = kV k ∧ H5 D = some (.dK kvs) ∧ kvs.length < sizeLine ∧ Nx (upd H5 D (.dK (putK kvs k z))) else Nx H3)
theorem ap_dc {wi : TI} {g : TG} {tt : TT} {tk tv : TE} {vs : List Nat} {σ : L2.St} {H : Hp} {Q : VK} : tDc wi g tt tk tv vs σ H Q = wi σ H fun J H1 => ∀ D, H1 D = none → LoopD J g tt tk tv vs D σ H1 Q := rfl
theorem dc_T {σ : L2.St} {H : Hp} {tk tv : TE} {tt : TT} {g : TG} {J : It} {n : Nat} {G : Hp → Prop} {Y : Nat → Hp → V → Hp → Prop} {Q : VK} {vs : List Nat} {Dl : Addr} (w : Walk J n G Y) (f : Nat → List Nat) (hG : ∀ H', Ex H H' → G H') (hn : n ≤ 50000) (hD : H Dl = none)
    (hs : ∀ i v H1 H', i < n → Ex H H1 → Y i H1 v H' → ∀ Q2 : V → V → Hp → Prop, (∀ z H3, Ex H1 H3 → Q2 (.str (tx (f i))) z H3) →
      g v (wipe σ vs) H' fun σ2 H2 => wipe σ2 vs = wipe σ vs ∧ tt σ2 H2 fun b H3 => if b = true then tk σ2 H3 fun y H4 => tv σ2 H4 fun z H5 => Q2 y z H5 else False)
    (hmono : ∀ σ2 H2 (Q Q' : Bool → Hp → Prop), (∀ b H3, Q b H3 → Q' b H3) → tt σ2 H2 Q → tt σ2 H2 Q') (gmono : ∀ v σ2 H2 (Q Q' : L2.St → Hp → Prop), (∀ s H3, Q s H3 → Q' s H3) → g v σ2 H2 Q → g v σ2 H2 Q')
    (k : ∀ H', Ex H H' → DkAt H' Dl ((List.range n).map f) → Q (.ref Dl) H') : LoopD J g tt tk tv vs Dl σ H Q := by
  refine ⟨fun i m H' => m = n - i ∧ i ≤ n ∧ Ex H H' ∧ DkAt H' Dl ((List.range i).map f), ⟨n, by simp, Nat.zero_le _, Evl.Ex.new hD, DkAt.nil⟩, ?_⟩
  rintro i m H1 ⟨rfl, hi, h1, h2⟩
  have q := hG _ h1
  by_cases hlt : i < n
  · refine .inr ⟨w.goes i H1 hlt q, fun H' => Ex H H' ∧ DkAt H' Dl ((List.range (i + 1)).map f), fun H' p' => ⟨n - (i + 1), by omega, rfl, hlt, p'⟩, fun x H' y => ?_⟩
    refine gmono _ _ _ _ _ (fun s H2 ⟨e, z⟩ => ⟨e, hmono _ _ _ _ (fun b H3 z => ?_) z⟩) (hs i x H1 H' hlt h1 (w.yields i H1 x H' hlt q y) (fun y z H5 => ∃ kvs k, y = kV k ∧ H5 Dl = some (.dK kvs) ∧ kvs.length < sizeLine ∧ Ex H (upd H5 Dl (.dK (putK kvs k z))) ∧ DkAt (upd H5 Dl (.dK (putK kvs k z))) Dl ((List.range (i + 1)).map f)) (fun z H3 e3 => ?_))
    · obtain ⟨kvs, e1, e2, e4⟩ := h2
      refine ⟨kvs, .inr (tx (f i)), rfl, e3 _ _ e1, szL (by rw [List.length_map, List.length_range] at e2; omega), (h1.trans e3).mut hD, ?_⟩
      rw [List.range_succ, List.map_append]
      exact ⟨_, upd_same, DkAt.put e2 e4⟩
    · split at z <;> rename_i hb
      · rw [if_pos hb]
        exact z
      · exact False.elim z
  · have e : i = n := by omega
    subst e
    exact .inl ⟨w.stops H1 q, k _ h1 h2⟩
theorem LcAt.fld {K : Frag} {mg : Str → Option Value} {H : Hp} {Q : VK} {x a s : Addr} {sg : List Nat} {ks : List (List Nat)} {b e : Int} {f : Str} {v : V} (c : Wd K mg) (h : LcAt K H x a sg b e s ks) (na : NoAttr K (gA K "ListCertificate") f) (l : ∀ l, (CF a sg b e s "_coats" (.ref l)).lookup f = some v) (q : Q v H) : rFld K f (.ref x) H Q := by
  obtain ⟨dx, l', h1, h2⟩ := h
  exact fld_ok h1 c.c_ListCertificate na (l l') q
def kJudge (ws : List (List Nat)) (sg : List Nat) (b : Int) (n : Nat) (t : Tr) (ks : List (List Nat)) (k : List Nat) : Bool := evT t b k && sg.all fun ch => decide (mulT k (signT ws ch b n) ∈ ks)
def lcJudge (ws : List (List Nat)) (sg : List Nat) (b : Int) (n : Nat) (t : Tr) (ks : List (List Nat)) : Bool := ks.all (kJudge ws sg b n t ks) && decide (plainT n ∈ ks)
theorem any_of {α : Type} (xs : List α) (d : α) (f : α → Bool) : ((List.range xs.length).any fun i => f (xs.getD i d)) = xs.any f := by
  have e : (List.range xs.length).map (fun i => xs.getD i d) = xs := by
    refine List.ext_getElem (by simp) fun i h1 h2 => ?_
    simp [List.getElem?_eq_getElem h2]
  conv => rhs; rw [← e]
  rw [List.any_map]
  rfl
end DR

set_option Elab.async false
set_option linter.all false
set_option maxRecDepth 100000
set_option maxHeartbeats 4000000
namespace DR
open PySem PySem.Spec PyProof.Rows L2
open PySem.W (Frag)
local macro_rules
  | `(tactic| walk_at "wp") => `(tactic| try simp only [L2.start, List.map_cons, List.map_nil, List.length_cons, List.length_nil, List.replicate, Nat.reduceAdd, Nat.reduceSub, List.cons_append, List.nil_append, List.append_nil, List.set_cons_succ, List.set_cons_zero,
      List.getElem?_cons_succ, List.getElem?_cons_zero, ap_K1, ap_K2, ap_seq, ap_next, ap_asg, ap_name, ap_ret, ap_retN, ap_drop, ap_ifS, ap_c, ap_var, ap_op, ap_un, ap_chain, ap_test, ap_B, ap_and, ap_or, ap_not, ap_yes, ap_andV, ap_orV, ap_notV, ap_if, ap_nil, ap_cons, ap_cb, ap_lst, ap_tup, ap_bm, ap_bm0, ap_m1, ap_call, ap_sl, ap_part, ap_nopart, ap_rI0, ap_rI, ap_rU, ap_eqI, ap_neI, ap_eqS, ap_neS, ap_eqB, ap_neB, ap_fld, ap_tup_, ap_gcons, ap_gnil, ap_gsub, ap_for, ap_lc, ap_rng1, ap_rng2, ap_list, ap_itup, ap_str, ap_enum, ap_zip, ap_inSg, ap_ninSg, ap_addS, ap_sfld, ap_meth, ap_prop, ap_make, ap_smeth, ap_never, ap_ost, ap_callS, ap_mko, ap_enumS, ap_zipS, ap_rng3, ap_listRg, ap_dnin, ap_din, ap_dput, ap_gfld, ap_kinds, ap_callO, ap_notN, ap_dc, decide_true, decide_false, Bool.not_true, Bool.not_false,  ap_leS, lit_alpha, tg1, tg2, tg3, tg4, tg5, tg6, eq_self, ap_revL,  ap_rg1, ap_cval, len_abcdef, exists_and_left, exists_and_right, exists_eq_left', and_assoc, exists_eq_left, exists_eq, exists_eq', Option.some.injEq, V.int.injEq, V.str.injEq, V.ref.injEq, V.bl.injEq, V.ty.injEq, List.cons.injEq, and_true, true_and, decide_eq_true_eq, Bool.not_eq_true', decide_eq_false_iff_not, Bool.false_eq_true, if_true, if_false, reduceCtorEq, false_and, and_false, or_false, false_or, or_true, true_or, not_true_eq_false, not_false_eq_true, Int.zero_add, lit_nil, lit_a, tx_len, one_tx, tx_app, tx_inj, exists_const, forall_const])
  | `(tactic| walk_at "om") => `(tactic| repeat (refine ⟨by first | omega | exact szI, ?_⟩))

def sp_ListCertificate_judged (K : Frag) : Sp := fun vs H Q _ => ∃ (x a s : Addr) (ws : List (List Nat)) (sg : List Nat) (b : Int) (n : Nat) (t : Tr) (ks : List (List Nat)), vs = [.ref x] ∧ LcAt K H x a sg b (b + n) s ks ∧ CalAt K H a ws ∧ SayAt K H s t ∧ SgOk ws sg b n ∧ badAt ws sg = none ∧ outAt b (b + n) t = none ∧ PlLe t ∧ t.size ≤ 1000 ∧ ks.length ≤ 1000 ∧ (∀ k ∈ ks, k ∈ allT n) ∧ ∀ H', Ex H H' → Q (.bl (lcJudge ws sg b n t ks)) H'
theorem LcAt.coats {K : Frag} {mg : Str → Option Value} {H : Hp} {Q : VK} {x a s : Addr} {sg : List Nat} {ks : List (List Nat)} {b e : Int} (c : Wd K mg) (h : LcAt K H x a sg b e s ks) (q : ∀ l, RA (CoR K) H l ks → Q (.ref l) H) : rFld K "_coats" (.ref x) H Q := by
  obtain ⟨dx, l, h1, h2⟩ := h
  exact fld_ok h1 c.c_ListCertificate c.a_ListCertificate_coats (by rfl) (q l h2)
theorem anyF {n : Nat} {g : Nat → Bool} (h : ∀ i, i < n → g i = false) : (List.range n).any g = false := by
  rw [List.any_eq_false]
  intro i hi
  rw [h i (List.mem_range.mp hi)]
  exact Bool.false_ne_true
theorem any_kj (ws : List (List Nat)) (sg : List Nat) (b : Int) (n : Nat) (ks : List (List Nat)) (k : List Nat) : ((List.range sg.length).any fun i => !decide (mulT k (signT ws (sg.getD i 0) b n) ∈ ks)) = !(sg.all fun ch => decide (mulT k (signT ws ch b n) ∈ ks)) := by
  rw [any_of sg 0 (fun ch => !decide (mulT k (signT ws ch b n) ∈ ks)), List.not_all_eq_any_not]
theorem sc_ListCertificate_judged : FnScope ["self", "plain_coat", "texts", "placed", "worn", "coat", "sign", "other"] ["self"] (defScope s_ListCertificate_judged) := ⟨rfl, rfl, rfl, by decide +kernel, rfl, by decide +kernel, by decide +kernel⟩
theorem b_ListCertificate_judged {K : Frag} {mg : Str → Option Value} (c : Wd K mg) : Binds K (fdOf K (mA K "ListCertificate" "judged")) ["self"] [] := c.f_ListCertificate_judged.binds (fun _ _ _ _ _ _ us hl => match us, hl with | [_], _ => rfl)
theorem ok_ListCertificate_judged {P : Program} {w : World} {K : Frag} {mg : Str → Option Value} {base : Heap} (c : Wd K mg) : FnOk P w K mg base (L2.CX P w) 8 (mA K "ListCertificate" "judged") (fdOf K (mA K "ListCertificate" "judged")) ["self"] (sp_ListCertificate_judged K) := by
  refine c.f_ListCertificate_judged.okX sc_ListCertificate_judged (fun vs H Q E h => ?_) (fun cdv A outer s H vs Q E hr h => ⟨_, PSs.nox (pss_cons (ps_if (pt_not (pt_val (pe_call (ok_keeps_window c) (hr.mono (by decide)) rfl c.g_keeps_window c.f_keeps_window.kp (b_keeps_window c) .nil passL (pa_cons (pe_fld (pv 0) rfl) (pa_cons (pe_fld (pv 0) rfl) (pa_cons (pe_fld (pv 0) rfl) (pa_cons (pe_fld (pv 0) rfl) (pa_cons (pe_fld (pv 0) rfl) pa_nil)))))))) (pss_one (ps_ret pe_bl)) pss_nil)
      (pss_cons (ps_set (i := 1) sc_ListCertificate_judged.nd rfl (Or.inr rfl) (pe_smeth (pe_cls rfl c.g_Coat) c.s_Coat_plain (ok_Coat_plain c) (hr.mono (by decide)) (b_Coat_plain c) passL (pa_cons (pe_op op_sub (pe_fld (pv 0) rfl) (pe_fld (pv 0) rfl)) pa_nil)))
      (pss_cons (ps_if (pt_val (pe_callB (cr_any rfl) (by rfl) c.z_any (by decide +kernel) (pa_cons (pe_lc (own := [("coat", 5)]) (g := gName 5) rfl sc_ListCertificate_judged.nd (pi_list (pe_fld (pv 0) rfl)) (blkOk_by (own := [("coat", 5)]) (N := ["self", "plain_coat", "texts", "placed", "worn", "coat", "sign", "other"]) (sc := defScope s_ListCertificate_judged) (by decide +kernel)) (fun _ _ _ _ _ => (pg_name (i := 5) sc_ListCertificate_judged.nd rfl (Or.inl rfl))) (fun _ _ _ _ _ => pts_nil) (fun _ _ _ _ _ => (pe_cmpR op_ne (pe_prop (pv 5) c.c_Coat c.p_Coat_places (ok_Coat_places c) (hr.mono (by decide)) (b_Coat_places c) .nil passL rfl) (pe_prop (pv 1) c.c_Coat c.p_Coat_places (ok_Coat_places c) (hr.mono (by decide)) (b_Coat_places c) .nil passL rfl) (nomark _)))) pa_nil))) (pss_one (ps_ret pe_bl)) pss_nil)
      (pss_cons (ps_set (i := 2) sc_ListCertificate_judged.nd rfl (Or.inr rfl) (pe_dc (own := [("coat", 5)]) (g := gName 5) rfl sc_ListCertificate_judged.nd (pi_list (pe_fld (pv 0) rfl)) (blkOk_by (own := [("coat", 5)]) (N := ["self", "plain_coat", "texts", "placed", "worn", "coat", "sign", "other"]) (sc := defScope s_ListCertificate_judged) (by decide +kernel)) (fun _ _ _ _ _ => (pg_name (i := 5) sc_ListCertificate_judged.nd rfl (Or.inl rfl))) (fun _ _ _ _ _ => pts_nil) (fun _ _ _ _ _ => (pe_meth0 (pv 5) c.c_Coat c.m_Coat_text (ok_Coat_text c) (hr.mono (by decide)) (b_Coat_text c) .nil passL)) (fun _ _ _ _ _ => pe_bl)))
      (pss_cons (ps_set (i := 3) sc_ListCertificate_judged.nd rfl (Or.inl rfl) (pe_meth (pe_fld (pv 0) rfl) c.c_Saying c.m_Saying_moved (ok_Saying_moved c) (hr.mono (by decide)) (b_Saying_moved c) .nil passL (pa_cons (pe_un un_neg (pe_fld (pv 0) rfl)) pa_nil)))
      (pss_cons (ps_setLc (i := 4) (own := [("sign", 6)]) (g := gName 6) rfl sc_ListCertificate_judged.nd rfl rfl (sw_true rfl rfl rfl (by decide +kernel)) (pi_str (pe_fld (pv 0) rfl)) (blkOk_by (own := [("sign", 6)]) (N := ["self", "plain_coat", "texts", "placed", "worn", "coat", "sign", "other"]) (sc := defScope s_ListCertificate_judged) (by decide +kernel)) (fun _ _ _ _ _ => (pg_name (i := 6) sc_ListCertificate_judged.nd rfl (Or.inl rfl))) (fun _ _ _ _ _ => pts_nil) (fun _ _ _ _ _ => (pe_call (ok_sign_coat c) (hr.mono (by decide)) rfl c.g_sign_coat c.f_sign_coat.kp (b_sign_coat c) .nil passL (pa_cons (pe_fldK (pv 0) rfl) (pa_cons (pv 6) (pa_cons (pe_fldK (pv 0) rfl) (pa_cons (pe_fldK (pv 0) rfl) pa_nil)))))))
      (pss_cons (ps_for PassesOwn.never rfl (pi_list (pe_fld (pv 0) rfl)) (pg_name (i := 5) sc_ListCertificate_judged.nd rfl (Or.inr rfl)) (pss_one (ps_if (PW.pt (pw_or (pt_not (pt_val (pe_callO (ok_Saying_call c) (hr.mono (by decide)) (b_Saying_call c) passL c.m_Saying_call.at_ c.m_Saying_call.fn (fnIn_of c.f_Saying_call) (i := 3) rfl (Or.inl rfl) (pa_cons (pv 5) pa_nil)))) (pw_or1 (pt_val (pe_callB (cr_any rfl) (by rfl) c.z_any (by decide +kernel) (pa_cons (pe_lc (own := [("other", 7)]) (g := gName 7) rfl sc_ListCertificate_judged.nd (pi_list (pv 4)) (blkOk_by (own := [("other", 7)]) (N := ["self", "plain_coat", "texts", "placed", "worn", "coat", "sign", "other"]) (sc := defScope s_ListCertificate_judged) (by decide +kernel)) (fun _ _ _ _ _ => (pg_name (i := 7) sc_ListCertificate_judged.nd rfl (Or.inl rfl))) (fun _ _ _ _ _ => pts_nil) (fun _ _ _ _ _ => (pe_cmp (pc_dnotin (hu_of hr) (pe_meth0 (pe_op (op_own2n (m := "__mul__") (by decide +kernel) (ok_Coat_mul c) (hr.mono (by decide)) (b_Coat_mul c) passL c.sf_Coat c.m_Coat_mul) (pv 5) (pv 7)) c.c_Coat c.m_Coat_text (ok_Coat_text c) (hr.mono (by decide)) (b_Coat_text c) .nil passL) (pv 2))))) pa_nil)))))) (pss_one (ps_ret pe_bl)) pss_nil)))
      (pss_one (ps_ret (pe_cmp (pc_din (hu_of hr) (pe_meth0 (pv 1) c.c_Coat c.m_Coat_text (ok_Coat_text c) (hr.mono (by decide)) (b_Coat_text c) .nil passL) (pv 2)))))))))))), ?_⟩)
  · obtain ⟨x, a, s', ws, sg, b, n, t, ks, rfl, hx, ha, hs, ok, hbad, hin, hle, hts, hkl, hka, hQ⟩ := h
    rfl
  obtain ⟨x, a, s', ws, sg, b, n, t, ks, rfl, hx, ha, hs, ok, hbad, hin, hle, hts, hkl, hka, hQ⟩ := h
  walk_at "wp"
  refine hx.fld c c.a_ListCertificate_calendar (fun _ => by rfl) (hx.fld c c.a_ListCertificate_signs (fun _ => by rfl) (hx.fld c c.a_ListCertificate_begin (fun _ => by rfl) (hx.fld c c.a_ListCertificate_end (fun _ => by rfl) (hx.fld c c.a_ListCertificate_saying (fun _ => by rfl) ?_))))
  have hn3 := ok.n3
  refine ⟨a, ws, sg, b, n, s', t, rfl, ha, hs, ok.sum, by have := ok.sgl; omega, hts, by omega, hbad, hin, fun H1 hx1 => ?_⟩
  walk_at "wp"
  have hl1 := hx.mono hx1
  refine hl1.fld c c.a_ListCertificate_end (fun _ => by rfl) (hl1.fld c c.a_ListCertificate_begin (fun _ => by rfl) ?_)
  walk_at "wp"
  refine ⟨n, by rw [show b + (n : Int) - b = (n : Int) by omega], by omega, (allT_mem (plain_in hn3)).1, fun pc H2 hpc hx2 hp2 => ?_⟩
  walk_at "wp"
  have hx12 := hx1.trans hx2
  have hl2 := hx.mono hx12
  have hplen := (allT_mem (plain_in hn3)).2
  refine hl2.coats c fun l hl => ?_
  obtain ⟨vs, hv1, hv0, hv3, hv4⟩ := hl.seq (K := K)
  refine ⟨l, rfl, ⟨vs, hv1⟩, fun D hD => ?_⟩
  refine lc_V walk_list (fun _ => true) (fun i => .bl false) (fun H' e => Evl.ex_l e hv1) (by omega) hD ?_ ?_
  · rintro i v H3 H4 hi hx3 ⟨rfl, hv⟩ Q' QN q1 q2
    obtain ⟨kt, ka, g3, rfl, g4⟩ := hv4 i v hv
    have g5 : CoatAt K H4 ka kt := CoR.monoD.to _ _ _ _ hx3 g4
    have hp4 := hp2.mono hx3
    have hkl2 := (allT_mem (hka _ (List.mem_of_getElem? g3))).2
    refine ⟨rfl, ?_⟩
    simp only [wipe]
    walk_at "wp"
    refine g5.prop ⟨ka, kt, rfl, g5, ?_⟩
    refine hp4.prop ⟨pc, _, rfl, hp4, ?_⟩
    walk_at "wp"
    rw [hplen, hkl2]
    simp only [decide_true, Bool.not_true]
    exact q1 _ (Evl.Ex.refl _) rfl
  · intro H3 hx3 hD3
    refine any_ok hD3 ?_
    rw [anyF (fun _ _ => rfl)]
    walk_at "wp"
    have hx13 := hx12.trans hx3
    have hl3 := hx.mono hx13
    refine hl3.coats c fun l2 hl2' => ?_
    obtain ⟨us, hu1, hu0, hu3, hu4⟩ := hl2'.seq (K := K)
    refine ⟨l2, rfl, ⟨us, hu1⟩, fun D2 hD2 => ?_⟩
    have hul : us.length = ks.length := hu3
    refine dc_T (n := us.length) walk_list (fun i => ks.getD i []) (fun H' e => Evl.ex_l e hu1) (by omega) hD2 ?_ ?_ ?_ ?_
    · rintro i v H4 H5 hi hx4 ⟨rfl, hv⟩ Q2 q2
      obtain ⟨kt, ka, g3, rfl, g4⟩ := hu4 i v hv
      have g5 : CoatAt K H5 ka kt := CoR.monoD.to _ _ _ _ hx4 g4
      have hkt : ks.getD i [] = kt := by rw [List.getD_eq_getElem?_getD, g3]; rfl
      refine ⟨rfl, ?_⟩
      simp only [wipe]
      walk_at "wp"
      refine g5.inst (by decide) (by decide) ⟨ka, kt, rfl, g5, ?_⟩
      walk_at "wp"
      rw [← hkt]
      exact q2 _ _ (Evl.Ex.refl _)
    · intro σ2 H4 Q1 Q2 hq z
      exact hq _ _ z
    · intro v σ2 H4 Q1 Q2 hq z
      exact hq _ _ z
    intro H4 hx4 hdk
    have edk : (List.range us.length).map (fun i => ks.getD i []) = ks := by
      rw [hul]
      refine List.ext_getElem (by simp) fun i h1 h2 => ?_
      simp [List.getElem?_eq_getElem h2]
    rw [edk] at hdk
    walk_at "wp"
    have hx14 := hx13.trans hx4
    have hl4 := hx.mono hx14
    refine hl4.fld c c.a_ListCertificate_saying (fun _ => by rfl) ?_
    have hs4 := hs.mono hx14
    refine hs4.inst (by decide) ?_
    refine hl4.fld c c.a_ListCertificate_begin (fun _ => by rfl) ?_
    walk_at "wp"
    refine ⟨s', t, -b, rfl, hs4, hts, fun m H5 hm hx5 hm5 => ?_⟩
    walk_at "wp"
    have hx15 := hx14.trans hx5
    have hl5 := hx.mono hx15
    refine hl5.fld c c.a_ListCertificate_signs (fun _ => by rfl) ?_
    walk_at "wp"
    intro D3 hD3'
    refine lc_RA (R := CoR K) (walk_tx sg) CoR.monoD.to CoR.off (fun _ => true) (fun i => signT ws (sg.getD i 0) b n) (fun _ _ => trivial) (by have := ok.sgl; omega) hD3' ?_ ?_
    · rintro i v H6 H7 hi hx6 ⟨rfl, rfl⟩ Q' QN q1 q2
      refine ⟨rfl, ?_⟩
      simp only [wipe]
      walk_at "wp"
      have hl7 := hl5.mono hx6
      have hsn := signT_in hn3 ws (sg.getD i 0) b
      refine hl7.fld c c.a_ListCertificate_calendar (fun _ => by rfl) (hl7.fld c c.a_ListCertificate_begin (fun _ => by rfl) (hl7.fld c c.a_ListCertificate_end (fun _ => by rfl) ?_))
      exact ⟨a, ws, sg.getD i 0, n, b, rfl, ha.mono (hx15.trans hx6), ok.w0, by have := ok.w6; omega, ok.st _ (getD_mem hi), by omega, by have := ok.b1; omega, by have := ok.b2; omega, hsn.1, (allT_mem hsn.2.1).1, hsn.2.2, fun p H8 hp hx8 h8 => q1 p H8 hx8 h8 rfl⟩
    · intro H6 hx6 hR
      walk_at "wp"
      have hx16 := hx15.trans hx6
      have hl6 := hx.mono hx16
      refine hl6.coats c fun l3 hl3' => ?_
      obtain ⟨ys, hy1, hy0, hy3, hy4⟩ := hl3'.seq (K := K)
      have hdk6 := (hdk.mono hx5).mono hx6
      have hm6 := hm5.mono hx6
      have hp6 := (((hp2.mono hx3).mono hx4).mono hx5).mono hx6
      refine ⟨l3, rfl, ⟨ys, hy1⟩, ?_⟩
      refine lp_list (fun i σ' H' => ∃ y, σ' = [some (.ref x), some (.ref pc), some (.ref D2), some (.ref m), some (.ref D3), y, none, none] ∧ Ex H6 H' ∧ ∀ j, j < i → kJudge ws sg b n t ks (ks.getD j []) = true) ⟨_, rfl, Evl.Ex.refl _, fun j hj => absurd hj (Nat.not_lt_zero j)⟩ (fun i σ' H' _ ⟨_, _, e, _⟩ => Evl.ex_l e hy1) ?_ ?_
      · rintro i v σ' H7 hi hv ⟨y, rfl, hx7, hj⟩
        rw [hy3] at hi
        obtain ⟨kt, ka, g3, rfl, g4⟩ := hy4 i v hv
        have hkt : ks.getD i [] = kt := by rw [List.getD_eq_getElem?_getD, g3]; rfl
        have hkm := hka _ (List.mem_of_getElem? g3)
        have hkl3 := (allT_mem hkm).2
        have hc7 : CoatAt K H7 ka kt := CoR.monoD.to _ _ _ _ hx7 g4
        walk_at "wp"
        refine sayO (hm6.mono hx7) hc7 (by rw [hkl3]; exact plOk_move hle hin) (by rw [move_size]; exact hts) (by omega) fun H8 hx8 => ?_
        have hev : (t.move (-b)).ev (plQ kt) = evT t b kt := rfl
        rw [hev]
        walk_at "wp"
        have fin : kJudge ws sg b n t ks kt = false → ∀ H', Ex H8 H' → Q (.bl false) H' := by
          intro hf H' e
          have h1 : lcJudge ws sg b n t ks = false := by
            unfold lcJudge
            rw [Bool.and_eq_false_iff]
            left
            rw [List.all_eq_false]
            exact ⟨kt, List.mem_of_getElem? g3, by rw [hf]; exact Bool.false_ne_true⟩
          rw [← h1]
          exact hQ _ (((hx16.trans hx7).trans hx8).trans e)
        by_cases hE : evT t b kt = true
        · rw [hE]
          walk_at "wp"
          obtain ⟨zs, hz1, hz0, hz3, hz4⟩ := (hR.mono CoR.monoD.to (hx7.trans hx8)).seq (K := K)
          have hsl := ok.sgl
          have hzl : zs.length = sg.length := by rw [hz3, List.length_map, List.filter_eq_self.mpr (fun _ _ => rfl), List.length_range]
          refine ⟨⟨zs, hz1⟩, fun D4 hD4 => ?_⟩
          refine lc_V (n := zs.length) walk_list (fun _ => true) (fun i => .bl (!decide (mulT kt (signT ws (sg.getD i 0) b n) ∈ ks))) (fun H' e => Evl.ex_l e hz1) (by omega) hD4 ?_ ?_
          · rintro i2 v2 H9 H10 hi2 hx9 ⟨rfl, hv2⟩ Q' QN q1 q2
            obtain ⟨st, sa, g6, rfl, g7⟩ := hz4 i2 v2 hv2
            have g8 : CoatAt K H10 sa st := CoR.monoD.to _ _ _ _ hx9 g7
            have hc10 := (hc7.mono hx8).mono hx9
            have hst : st = signT ws (sg.getD i2 0) b n := by
              have hi3 : i2 < sg.length := by omega
              rw [List.filter_eq_self.mpr (fun _ _ => rfl), List.getElem?_map, List.getElem?_range hi3] at g6
              exact (Option.some.inj g6).symm
            have hsm := (signT_in hn3 ws (sg.getD i2 0) b).2.1
            rw [← hst] at hsm
            have hml := mul_in hn3 hkm hsm
            refine ⟨rfl, ?_⟩
            simp only [wipe]
            walk_at "wp"
            refine mulC (mg := mg) hc10 g8 (by rw [hkl3, (allT_mem hsm).2]) (by rw [hkl3]; omega) (allT_mem hml.1).1 fun p H11 hp hx11 h11 => ?_
            refine h11.inst (by decide) (by decide) ⟨p, _, rfl, h11, ?_⟩
            walk_at "wp"
            refine dnin_ok ((((hdk6.mono hx7).mono hx8).mono hx9).mono hx11) ?_
            rw [← hst] at q1
            exact q1 _ hx11 rfl
          · intro H9 hx9 hD9
            refine any_ok hD9 ?_
            rw [hzl, any_kj]
            walk_at "wp"
            have hk : kJudge ws sg b n t ks kt = sg.all fun ch => decide (mulT kt (signT ws ch b n) ∈ ks) := by unfold kJudge; rw [hE, Bool.true_and]
            rw [← hk]
            by_cases hJ : kJudge ws sg b n t ks kt = true
            · rw [hJ]
              walk_at "wp"
              refine ⟨(hx7.trans hx8).trans hx9, fun j hj' => ?_⟩
              by_cases h' : j < i
              · exact hj j h'
              · have : j = i := by omega
                subst this
                rw [hkt]
                exact hJ
            · rw [Bool.not_eq_true] at hJ
              rw [hJ]
              walk_at "wp"
              exact fin hJ _ hx9
        · rw [Bool.not_eq_true] at hE
          rw [hE]
          walk_at "wp"
          exact fin (by unfold kJudge; rw [hE, Bool.false_and]) _ (Evl.Ex.refl _)
      · rintro σ' H7 ⟨y, rfl, hx7, hj⟩
        walk_at "wp"
        have hp7 := hp6.mono hx7
        refine hp7.inst (by decide) (by decide) ⟨pc, _, rfl, hp7, ?_⟩
        refine din_ok (hdk6.mono hx7) ?_
        have h1 : lcJudge ws sg b n t ks = decide (plainT n ∈ ks) := by
          unfold lcJudge
          rw [List.all_eq_true.mpr, Bool.true_and]
          intro k hk
          obtain ⟨j, hj2, rfl⟩ := List.getElem_of_mem hk
          have := hj j (by rw [hy3]; exact hj2)
          rw [List.getD_eq_getElem?_getD, List.getElem?_eq_getElem hj2] at this
          exact this
        have := hQ H7 (hx16.trans hx7)
        rw [h1] at this
        exact this
end DR

set_option Elab.async false
set_option linter.all false
set_option maxRecDepth 100000
set_option maxHeartbeats 4000000
/-! the law's tables are the rows of steps -/
namespace DR
def adStep (f : Nat → Bool) (row : List Int) (acc : List Int) (j : Nat) : List Int := acc ++ [imax (if f j = true then imax (acc.getLastD 0) (row.getD j 0 + 1) else acc.getLastD 0) (row.getD (j + 1) 0)]
def addRow (f : Nat → Bool) (row : List Int) (m : Nat) : List Int := rf m (adStep f row) [0]
theorem lastD_snoc (a : List Int) (x : Int) : (a ++ [x]).getLastD 0 = x := by simp
theorem getD_l (a : List Int) (x : Int) {i : Nat} (h : i < a.length) : (a ++ [x]).getD i 0 = a.getD i 0 := by
  rw [List.getD_eq_getElem?_getD, List.getElem?_append_left h, ← List.getD_eq_getElem?_getD]
theorem getD_r (a : List Int) (x : Int) {i : Nat} (h : i = a.length) : (a ++ [x]).getD i 0 = x := by
  subst h
  simp
theorem set_l (a : List Int) (x y : Int) {i : Nat} (h : i < a.length) : (a ++ [x]).set i y = a.set i y ++ [x] := by
  rw [List.set_append, if_pos h]
theorem set_r (a : List Int) (x y : Int) {i : Nat} (h : i = a.length) : (a ++ [x]).set i y = a ++ [y] := by
  subst h
  rw [List.set_append, if_neg (by omega)]
  simp
theorem sets_l (ss : List (List Int)) (S : List Int) {i : Nat} (h : i < ss.length) : (ss ++ [S]).getD i [] = ss.getD i [] := by
  rw [List.getD_eq_getElem?_getD, List.getElem?_append_left h, ← List.getD_eq_getElem?_getD]
theorem sets_r (ss : List (List Int)) (S : List Int) {i : Nat} (h : i = ss.length) : (ss ++ [S]).getD i [] = S := by
  subst h
  simp
theorem lcDown_len1 (P : Nat) (ss : List (List Int)) (x : Int) (b : List Int) (j : Nat) : (lcDown P ss x b j).length = b.length := by
  unfold lcDown
  split <;> simp
theorem lcUp_len1 (b : List Int) (j : Nat) : (lcUp b j).length = b.length := by simp [lcUp]
theorem lcUp_eq (best : List Int) (j : Nat) : lcUp best j = best.set (j + 1) (imax (best.getD (j + 1) 0) (best.getD j 0)) := rfl
theorem rf_len {f : List Int → Nat → List Int} (h : ∀ b j, (f b j).length = b.length) (n : Nat) (b : List Int) : (rf n f b).length = b.length := by
  induction n with
  | zero => rfl
  | succ n ih => rw [rf_succ, h, ih]
/-- the first turn apart -/
theorem rf_first {S : Type} (f : S → Nat → S) (n : Nat) (s : S) : rf (n + 1) f s = rf n (fun s i => f s (i + 1)) (f s 0) := by
  induction n with
  | zero => rfl
  | succ n ih =>
    rw [rf_succ, ih]
    rw [rf_succ (f := fun s i => f s (i + 1))]
theorem down_snoc (P : Nat) (ss : List (List Int)) (S : List Int) (x : Int) (b : List Int) (v : Int) (hb : b.length = ss.length + 1) {j : Nat} (hj : j < ss.length) : lcDown P (ss ++ [S]) x (b ++ [v]) (j + 1) = lcDown P ss x b j ++ [v] := by
  unfold lcDown
  rw [List.length_append, List.length_singleton, show ss.length + 1 - (j + 1) = ss.length - j by omega]
  rw [sets_l ss S (by omega), set_l b v _ (by omega), getD_l b v (by omega), getD_l b v (by omega)]
  split <;> rfl
theorem downs_snoc (P : Nat) (ss : List (List Int)) (S : List Int) (x : Int) (b : List Int) (v : Int) (hb : b.length = ss.length + 1) : ∀ n, n ≤ ss.length → rf n (fun s i => lcDown P (ss ++ [S]) x s (i + 1)) (b ++ [v]) = rf n (lcDown P ss x) b ++ [v]
  | 0, _ => rfl
  | n + 1, h => by
    rw [rf_succ, rf_succ, downs_snoc P ss S x b v hb n (by omega)]
    exact down_snoc P ss S x _ v (by rw [rf_len (lcDown_len1 P ss x), hb]) (by omega)
theorem ups_snoc (b : List Int) (v : Int) : ∀ n, n + 1 ≤ b.length → rf n lcUp (b ++ [v]) = rf n lcUp b ++ [v]
  | 0, _ => rfl
  | n + 1, h => by
    rw [rf_succ, rf_succ, ups_snoc b v n (by omega)]
    have hl := rf_len lcUp_len1 n b
    unfold lcUp at hl ⊢
    rw [set_l _ v _ (by omega), getD_l _ v (by omega), getD_l _ v (by omega)]
theorem lcX_snoc (P : Nat) (ss : List (List Int)) (S : List Int) (x : Int) (b : List Int) (v : Int) (hb : b.length = ss.length + 1) :
    lcX P (ss ++ [S]) x (b ++ [v]) = lcX P ss x b ++ [imax (if x % (P : Int) ∈ S then imax v (b.getD ss.length 0 + 1) else v) ((lcX P ss x b).getD ss.length 0)] := by
  have h0 : ∃ v', lcDown P (ss ++ [S]) x (b ++ [v]) 0 = b ++ [v'] ∧ v' = if x % (P : Int) ∈ S then imax v (b.getD ss.length 0 + 1) else v := by
    unfold lcDown
    rw [List.length_append, List.length_singleton, show ss.length + 1 - 0 - 1 = ss.length by omega, show ss.length + 1 - 0 = ss.length + 1 by omega, sets_r ss S rfl, set_r b v _ hb.symm, getD_r b v hb.symm, getD_l b v (by omega)]
    split
    · exact ⟨_, rfl, rfl⟩
    · exact ⟨_, rfl, rfl⟩
  obtain ⟨v', e, hv'⟩ := h0
  unfold lcX
  rw [List.length_append, List.length_singleton, rf_first (lcDown P (ss ++ [S]) x), e, downs_snoc P ss S x b v' hb _ (Nat.le_refl _), rf_succ]
  have hl := rf_len (lcDown_len1 P ss x) ss.length b
  rw [ups_snoc _ v' _ (by omega)]
  have hl2 := rf_len lcUp_len1 ss.length (rf ss.length (lcDown P ss x) b)
  rw [lcUp_eq]
  rw [set_r _ v' _ (by omega), getD_r _ v' (by omega), getD_l _ v' (by omega), hv']
theorem lcX_zero (P : Nat) (x : Int) (b : List Int) : lcX P [] x b = b := rfl
theorem lcStep_eq (P : Nat) (ss : List (List Int)) (b : Int) (s : List Int × List Int) (i : Nat) : lcStep P ss b s i = (lcX P ss (b + i) s.1, s.2 ++ [(lcX P ss (b + i) s.1).getD ss.length 0]) := rfl
theorem adStep_eq (f : Nat → Bool) (row : List Int) (acc : List Int) (j : Nat) : adStep f row acc j = acc ++ [imax (if f j = true then imax (acc.getLastD 0) (row.getD j 0 + 1) else acc.getLastD 0) (row.getD (j + 1) 0)] := rfl
theorem lcs_len (P : Nat) (ss : List (List Int)) (b : Int) (n : Nat) : (rf n (lcStep P ss b) (bestZ ss.length, [0])).1.length = ss.length + 1 ∧ (rf n (lcStep P ss b) (bestZ ss.length, [0])).2.length = n + 1 := by
  induction n with
  | zero => exact ⟨by simp [rf_zero, bestZ], rfl⟩
  | succ n ih =>
    rw [rf_succ, lcStep_eq]
    exact ⟨by rw [lcX_len]; exact ih.1, by rw [List.length_append, List.length_singleton, ih.2]⟩
theorem lcs_last (P : Nat) (ss : List (List Int)) (b : Int) (n : Nat) : (rf n (lcStep P ss b) (bestZ ss.length, [0])).2.getLastD 0 = (rf n (lcStep P ss b) (bestZ ss.length, [0])).1.getD ss.length 0 := by
  cases n with
  | zero => simp [rf_zero, bestZ]
  | succ n => rw [rf_succ]; unfold lcStep; rw [lastD_snoc]
theorem ad_congr (f : Nat → Bool) (r1 r2 : List Int) : ∀ m, (∀ j, j ≤ m → r1.getD j 0 = r2.getD j 0) → addRow f r1 m = addRow f r2 m
  | 0, _ => rfl
  | m + 1, h => by
    have ih := ad_congr f r1 r2 m (fun j hj => h j (by omega))
    unfold addRow at ih ⊢
    rw [rf_succ, rf_succ, ih]
    unfold adStep
    rw [h m (by omega), h (m + 1) (by omega)]
theorem ad_congr2 (f g : Nat → Bool) (r : List Int) : ∀ m, (∀ j, j < m → f j = g j) → addRow f r m = addRow g r m
  | 0, _ => rfl
  | m + 1, h => by
    have ih := ad_congr2 f g r m (fun j hj => h j (by omega))
    unfold addRow at ih ⊢
    rw [rf_succ, rf_succ, ih]
    unfold adStep
    rw [h m (by omega)]
theorem getD_last {a : List Int} {n : Nat} (h : a.length = n + 1) : a.getD n 0 = a.getLastD 0 := by
  obtain ⟨r, x, rfl⟩ : ∃ r x, a = r ++ [x] := ⟨a.dropLast, a.getLast (by rintro rfl; simp at h), (List.dropLast_concat_getLast _).symm⟩
  rw [lastD_snoc, getD_r r x (by simp at h; omega)]
/-- one entry more -/
theorem lcs_snoc (P : Nat) (ss : List (List Int)) (S : List Int) (b : Int) : ∀ n, rf n (lcStep P (ss ++ [S]) b) (bestZ (ss ++ [S]).length, [0]) =
    ((rf n (lcStep P ss b) (bestZ ss.length, [0])).1 ++ [(addRow (fun j => decide ((b + (j : Int)) % (P : Int) ∈ S)) (rf n (lcStep P ss b) (bestZ ss.length, [0])).2 n).getLastD 0], addRow (fun j => decide ((b + (j : Int)) % (P : Int) ∈ S)) (rf n (lcStep P ss b) (bestZ ss.length, [0])).2 n)
  | 0 => by
    rw [rf_zero, rf_zero]
    refine Prod.ext ?_ rfl
    show List.replicate _ _ = List.replicate _ _ ++ [(0 : Int)]
    rw [List.length_append, List.length_singleton, List.replicate_succ']
  | n + 1 => by
    rw [rf_succ, lcs_snoc P ss S b n, rf_succ]
    obtain ⟨h1, h2⟩ := lcs_len P ss b n
    have h3 := lcs_last P ss b n
    revert h1 h2 h3
    generalize rf n (lcStep P ss b) (bestZ ss.length, [0]) = s
    intro h1 h2 h3
    rw [lcStep_eq, lcStep_eq]
    have hl := lcX_len P ss (b + (n : Int)) s.1
    rw [lcX_snoc P ss S _ _ _ h1]
    have hr : addRow (fun j => decide ((b + (j : Int)) % (P : Int) ∈ S)) (s.2 ++ [(lcX P ss (b + (n : Int)) s.1).getD ss.length 0]) (n + 1) = addRow (fun j => decide ((b + (j : Int)) % (P : Int) ∈ S)) s.2 n ++ [imax (if (b + (n : Int)) % (P : Int) ∈ S then imax ((addRow (fun j => decide ((b + (j : Int)) % (P : Int) ∈ S)) s.2 n).getLastD 0) (s.1.getD ss.length 0 + 1) else (addRow (fun j => decide ((b + (j : Int)) % (P : Int) ∈ S)) s.2 n).getLastD 0) ((lcX P ss (b + (n : Int)) s.1).getD ss.length 0)] := by
      have e := ad_congr (fun j => decide ((b + (j : Int)) % (P : Int) ∈ S)) (s.2 ++ [(lcX P ss (b + (n : Int)) s.1).getD ss.length 0]) s.2 n (fun j hj => getD_l _ _ (by omega))
      unfold addRow at e ⊢
      rw [rf_succ, e, adStep_eq]
      rw [getD_l _ _ (by omega), getD_r _ _ (by omega), getD_last h2, h3]
      simp only [decide_eq_true_eq]
    rw [hr]
    simp only [lastD_snoc]
    refine Prod.ext rfl ?_
    show _ ++ [_] = _
    rw [List.length_append, List.length_singleton, getD_r _ _ (by omega)]
theorem counts_snoc (P : Nat) (ss : List (List Int)) (S : List Int) (b : Int) (n : Nat) : lawCounts P (ss ++ [S]) b n = addRow (fun j => decide ((b + (j : Int)) % (P : Int) ∈ S)) (lawCounts P ss b n) n := by
  unfold lawCounts
  rw [lcs_snoc]
theorem counts_nil (P : Nat) (b : Int) (n : Nat) : lawCounts P [] b n = List.replicate (n + 1) 0 := by
  unfold lawCounts
  induction n with
  | zero => rfl
  | succ n ih =>
    rw [rf_succ]
    have e : (rf n (lcStep P [] b) (bestZ ([] : List (List Int)).length, [0])).1 = [0] := by
      clear ih
      induction n with
      | zero => rfl
      | succ n ih => rw [rf_succ, lcStep_eq, lcX_zero]; exact ih
    rw [lcStep_eq, lcX_zero]
    show (rf n (lcStep P [] b) (bestZ ([] : List (List Int)).length, [0])).2 ++ [_] = _
    rw [ih, e, List.replicate_succ' (n := n + 1)]
    rfl
/-! rows of steps, all of them at most three places wide -/
def inT (T : List Int) (g : Nat) (j : Nat) : Bool := decide (((g + j : Nat) : Int) ∈ T)
def rowAll (n : Nat) : Bool := (bfs n).all fun b => (subs n).all fun T => (List.range (n + 1)).all fun g => decide (addRow (inT T g) (rowOf b g) (n - g) = rowOf (stepBefore b T) g)
theorem rowAll_ok : ∀ n, n ≤ 3 → rowAll n = true := by
  intro n hn
  match n, hn with
  | 0, _ => decide +kernel
  | 1, _ => decide +kernel
  | 2, _ => decide +kernel
  | 3, _ => decide +kernel
theorem row_step {n : Nat} (hn : n ≤ 3) {b T : List Int} (hb : b ∈ bfs n) (hT : T ∈ subs n) {g : Nat} (hg : g ≤ n) : addRow (inT T g) (rowOf b g) (n - g) = rowOf (stepBefore b T) g :=
  of_decide_eq_true (List.all_eq_true.mp (List.all_eq_true.mp (List.all_eq_true.mp (rowAll_ok n hn) b hb) T hT) g (List.mem_range.mpr (by omega)))
def row0All (n : Nat) : Bool := (List.range (n + 1)).all fun g => decide (List.replicate (n - g + 1) 0 = rowOf (idB n) g)
theorem row0_ok {n : Nat} (hn : n ≤ 3) {g : Nat} (hg : g ≤ n) : List.replicate (n - g + 1) 0 = rowOf (idB n) g := by
  have : row0All n = true := by
    match n, hn with
    | 0, _ => decide +kernel
    | 1, _ => decide +kernel
    | 2, _ => decide +kernel
    | 3, _ => decide +kernel
  exact of_decide_eq_true (List.all_eq_true.mp this g (List.mem_range.mpr (by omega)))
def ctAll (n : Nat) : Bool := (bfs n).all fun b => decide (lawCoatText (mapr (n + 1) (rowOf b)) = textOfBefore b)
theorem ct_ok {n : Nat} (hn : n ≤ 3) {b : List Int} (hb : b ∈ bfs n) : lawCoatText (mapr (n + 1) (rowOf b)) = textOfBefore b := by
  have : ctAll n = true := by
    match n, hn with
    | 0, _ => decide +kernel
    | 1, _ => decide +kernel
    | 2, _ => decide +kernel
    | 3, _ => decide +kernel
  exact of_decide_eq_true (List.all_eq_true.mp this b hb)
/-- the law's coat of a page is the program's -/
theorem pageCoat {n : Nat} (hn : n ≤ 3) (P : Nat) (ws : List (List Nat)) (low : Int) (t : List Nat) (sf : Nat → List Int) (hP : ws.length = P) (hs : ∀ ch ∈ t, ∀ x : Int, (low + x) % (P : Int) ∈ sf ch ↔ (low + x) % (P : Int) ∈ standsOf ws ch) :
    lawPageCoat P (t.map sf) low n = pageT ws low n t := by
  subst hP
  have key : ∀ i, i ≤ t.length → ∀ g, g ≤ n → lawCounts ws.length ((t.take i).map sf) (low + (g : Int)) (n - g) = rowOf (pageB ws low n t i) g := by
    intro i
    induction i with
    | zero => intro _ g hg; rw [List.take_zero, List.map_nil, counts_nil]; exact row0_ok hn hg
    | succ i ih =>
      intro hi g hg
      have hlt : i < t.length := hi
      have e : t.take (i + 1) = t.take i ++ [t.getD i 0] := by
        rw [List.take_add_one, List.getElem?_eq_getElem hlt, List.getD_eq_getElem?_getD, List.getElem?_eq_getElem hlt]
        rfl
      rw [e, List.map_append, List.map_singleton, counts_snoc, ih (by omega) g hg]
      have e2 : pageB ws low n t (i + 1) = stepBefore (pageB ws low n t i) (standsIn ws (t.getD i 0) low n) := by
        unfold pageB
        rw [rf_succ]
      rw [e2, ← row_step hn (pageB_in hn ws low t i) (standsIn_subs hn ws (t.getD i 0) low) hg]
      refine ad_congr2 _ _ _ _ fun j hj => ?_
      have hm := hs (t.getD i 0) (getD_mem hlt) ((g + j : Nat) : Int)
      unfold inT standsIn
      rw [show low + (g : Int) + (j : Int) = low + ((g + j : Nat) : Int) by omega]
      refine decide_eq_decide.mpr (hm.trans ?_)
      constructor
      · intro h
        exact List.mem_map.mpr ⟨g + j, List.mem_filter.mpr ⟨List.mem_range.mpr (by omega), decide_eq_true h⟩, rfl⟩
      · intro h
        obtain ⟨x, hx, ex⟩ := List.mem_map.mp h
        have : x = g + j := by omega
        subst this
        exact of_decide_eq_true (List.mem_filter.mp hx).2
  unfold lawPageCoat
  have e : mapr (n + 1) (fun g => lawCounts ws.length (t.map sf) (low + (g : Int)) (n - g)) = mapr (n + 1) (rowOf (pageB ws low n t t.length)) := by
    unfold mapr
    refine List.map_congr_left fun g hg => ?_
    have := key t.length (Nat.le_refl _) g (by have := List.mem_range.mp hg; omega)
    rwa [List.take_length] at this
  rw [e, ct_ok hn (pageB_in hn ws low t _)]
  rfl
end DR

set_option Elab.async false
set_option linter.all false
set_option maxRecDepth 100000
set_option maxHeartbeats 200000
/-! kinds: closed, least; certificates' judgements; sayings of the law -/
namespace DR
/-! finite facts -/
def unitAll (n : Nat) : Bool := (allT n).all fun t => decide (mulT (plainT n) t = t)
theorem unit_ok {n : Nat} (hn : n ≤ 3) {t : List Nat} (ht : t ∈ allT n) : mulT (plainT n) t = t := by
  have : unitAll n = true := by
    match n, hn with
    | 0, _ => decide +kernel
    | 1, _ => decide +kernel
    | 2, _ => decide +kernel
    | 3, _ => decide +kernel
  exact of_decide_eq_true (List.all_eq_true.mp this t ht)
def colAll (n : Nat) : Bool := (allT n).all fun t => (List.range (n + 1)).all fun e => (List.range (e + 1)).all fun b => decide (colours t b e = countIn (beforeOfText t) b e)
theorem col_ok {n : Nat} (hn : n ≤ 3) {t : List Nat} (ht : t ∈ allT n) {b e : Nat} (h1 : b ≤ e) (h2 : e ≤ n) : colours t b e = countIn (beforeOfText t) b e := by
  have : colAll n = true := by
    match n, hn with
    | 0, _ => decide +kernel
    | 1, _ => decide +kernel
    | 2, _ => decide +kernel
    | 3, _ => decide +kernel
  exact of_decide_eq_true (List.all_eq_true.mp (List.all_eq_true.mp (List.all_eq_true.mp this t ht) e (List.mem_range.mpr (by omega))) b (List.mem_range.mpr (by omega)))
theorem pageT_one {n : Nat} (hn : n ≤ 3) (ws : List (List Nat)) (b : Int) (ch : Nat) : pageT ws b n [ch] = signT ws ch b n := by
  have := pageT_snoc hn ws b [] ch
  rw [List.nil_append, pageT_nil hn, unit_ok hn (signT_in hn ws ch b).2.1] at this
  exact this
/-! the closure -/
theorem ckSg_fst {n turn : Nat} {s : CkS} {x : Nat × List Nat} (hn : n ≤ 3) (h : CkOk n s) (ht : turn < s.1.length) (hx : x.2 ∈ allT n) : (ckSg turn s x).1 = clStep turn s.1 x.2 := by
  have e := (mul_in hn (h.tx _ (getD_mem (d := []) ht)) hx).2
  unfold ckSg clStep
  rw [if_pos ht, e]
  split <;> rfl
theorem ckSgs_fst {n turn : Nat} (hn : n ≤ 3) : ∀ (items : List (Nat × List Nat)) (s : CkS), CkOk n s → turn < s.1.length → (∀ x ∈ items, x.2 ∈ allT n) → (items.foldl (ckSg turn) s).1 = (items.map (·.2)).foldl (clStep turn) s.1
  | [], s, _, _, _ => rfl
  | x :: r, s, h, ht, hx => by
    obtain ⟨h1, h2⟩ := h.sg hn ht (hx x List.mem_cons_self)
    simp only [List.foldl_cons, List.map_cons]
    rw [ckSgs_fst hn r _ h1 (by omega) fun y hy => hx y (List.mem_cons_of_mem _ hy), ckSg_fst hn h ht (hx x List.mem_cons_self)]
theorem clSteps_no (turn : Nat) : ∀ (cs : List (List Nat)) (f : List (List Nat)), ¬ turn < f.length → cs.foldl (clStep turn) f = f
  | [], f, _ => rfl
  | c :: r, f, h => by
    simp only [List.foldl_cons]
    have e : clStep turn f c = f := by unfold clStep; rw [if_neg h]
    rw [e]
    exact clSteps_no turn r f h
theorem ck_closure {n : Nat} {items : List (Nat × List Nat)} (hn : n ≤ 3) (hx : ∀ x ∈ items, x.2 ∈ allT n) : ckK n items = lawClosure (items.map (·.2)) n := by
  unfold ckK lawClosure
  have key : ∀ i, (ckAt n items i).1 = rf i (fun found at_ => (items.map (·.2)).foldl (clStep at_) found) [plainT n] := by
    intro i
    induction i with
    | zero => rw [ckAt_zero]; rfl
    | succ i ih =>
      have h := CkOk.at hn hx i
      have e : ckAt n items (i + 1) = ckTurn items (ckAt n items i) i := ckAt_succ
      rw [e, rf_succ, ← ih]
      unfold ckTurn
      split
      · rename_i hl
        exact ckSgs_fst hn items _ h hl hx
      · rename_i hl
        exact (clSteps_no i _ _ hl).symm
  exact key 16
theorem items_snd (ws : List (List Nat)) (sg : List Nat) (b : Int) (n : Nat) : (itemsOf ws sg b n).map (·.2) = sg.map fun ch => signT ws ch b n := by
  unfold itemsOf
  rw [List.map_snd_zip]
  simp
theorem kinds_closure {n : Nat} (hn : n ≤ 3) (ws : List (List Nat)) (sg : List Nat) (b : Int) : kindsOf ws sg b n = lawClosure (sg.map fun ch => signT ws ch b n) n := by
  unfold kindsOf
  rw [ck_closure hn (items_in hn), items_snd]
/-! what stands stays where it stands -/
theorem sg_pre (turn : Nat) (s : CkS) (x : Nat × List Nat) : s.1 <+: (ckSg turn s x).1 := by
  unfold ckSg
  split
  · exact List.prefix_refl _
  · exact List.prefix_append _ _
theorem sgs_pre (turn : Nat) : ∀ (items : List (Nat × List Nat)) (s : CkS), s.1 <+: (items.foldl (ckSg turn) s).1
  | [], s => List.prefix_refl _
  | x :: r, s => (sg_pre turn s x).trans (sgs_pre turn r _)
theorem turn_pre (items : List (Nat × List Nat)) (s : CkS) (turn : Nat) : s.1 <+: (ckTurn items s turn).1 := by
  unfold ckTurn
  split
  · exact sgs_pre turn items s
  · exact List.prefix_refl _
theorem at_pre (n : Nat) (items : List (Nat × List Nat)) (i : Nat) : ∀ j, (ckAt n items i).1 <+: (ckAt n items (i + j)).1
  | 0 => List.prefix_refl _
  | j + 1 => by
    have e : ckAt n items (i + (j + 1)) = ckTurn items (ckAt n items (i + j)) (i + j) := ckAt_succ
    rw [e]
    exact (at_pre n items i j).trans (turn_pre items _ _)
theorem pre_getD {a b : List (List Nat)} (h : a <+: b) {i : Nat} (hi : i < a.length) : b.getD i [] = a.getD i [] := by
  obtain ⟨r, rfl⟩ := h
  rw [List.getD_eq_getElem?_getD, List.getElem?_append_left hi, ← List.getD_eq_getElem?_getD]
theorem sgs_mem {n turn : Nat} (hn : n ≤ 3) : ∀ (items : List (Nat × List Nat)) (s : CkS), turn < s.1.length → ∀ x ∈ items, mulT (s.1.getD turn []) x.2 ∈ (items.foldl (ckSg turn) s).1
  | y :: r, s, ht, x, hx => by
    simp only [List.foldl_cons]
    have hp := sg_pre turn s y
    have hlen : turn < (ckSg turn s y).1.length := Nat.lt_of_lt_of_le ht hp.length_le
    rcases List.mem_cons.mp hx with rfl | hx
    · refine (sgs_pre turn r _).subset ?_
      unfold ckSg
      split
      · assumption
      · exact List.mem_append_right _ List.mem_cons_self
    · have := sgs_mem hn r (ckSg turn s y) hlen x hx
      rwa [pre_getD hp ht] at this
theorem ck_closed {n : Nat} {items : List (Nat × List Nat)} (hn : n ≤ 3) (hx : ∀ x ∈ items, x.2 ∈ allT n) : ∀ k ∈ ckK n items, ∀ x ∈ items, mulT k x.2 ∈ ckK n items := by
  intro k hk x hxm
  obtain ⟨i, hi, rfl⟩ := List.getElem_of_mem hk
  have hle : (ckK n items).length ≤ 15 := (CkOk.at hn hx 16).le hn
  have hlt : i < (ckAt n items i).1.length := by
    by_cases h : (ckAt n items i).1.length ≤ i
    · have := ck_end (by omega) h
      unfold ckK at hi
      rw [this] at hi
      omega
    · omega
  have e16 : (ckAt n items i).1 <+: ckK n items := by
    have := at_pre n items i (16 - i)
    rwa [show i + (16 - i) = 16 by omega] at this
  have e17 : (ckAt n items (i + 1)).1 <+: ckK n items := by
    have := at_pre n items (i + 1) (16 - (i + 1))
    rwa [show i + 1 + (16 - (i + 1)) = 16 by omega] at this
  have e : ckAt n items (i + 1) = ckTurn items (ckAt n items i) i := ckAt_succ
  have hm := sgs_mem (n := n) hn items (ckAt n items i) hlt x hxm
  have hg : (ckK n items)[i] = (ckAt n items i).1.getD i [] := by
    rw [← pre_getD e16 hlt, List.getD_eq_getElem?_getD, List.getElem?_eq_getElem hi]
    rfl
  rw [hg]
  refine e17.subset ?_
  rw [e]
  unfold ckTurn
  rw [if_pos hlt]
  exact hm
theorem ck_plain {n : Nat} {items : List (Nat × List Nat)} : plainT n ∈ ckK n items := by
  have h := at_pre n items 0 16
  rw [ckAt_zero] at h
  unfold ckK
  exact h.subset List.mem_cons_self
/-! pages -/
theorem getD_app_l {a r : List (List Nat)} {i : Nat} (h : i < a.length) : (a ++ r).getD i [] = a.getD i [] := by
  rw [List.getD_eq_getElem?_getD, List.getElem?_append_left h, ← List.getD_eq_getElem?_getD]
theorem getD_app_r {a : List (List Nat)} {x : List Nat} {i : Nat} (h : i = a.length) : (a ++ [x]).getD i [] = x := by
  subst h
  simp
def PgOk (ws : List (List Nat)) (sg : List Nat) (b : Int) (n : Nat) (s : CkS) : Prop := s.2.length = s.1.length ∧ ∀ i, i < s.1.length → pageT ws b n (s.2.getD i []) = s.1.getD i [] ∧ ∀ ch ∈ s.2.getD i [], ch ∈ sg
theorem pg_sg {ws : List (List Nat)} {sg : List Nat} {b : Int} {n turn : Nat} (hn : n ≤ 3) {s : CkS} {x : Nat × List Nat} (h : PgOk ws sg b n s) (ht : turn < s.1.length) (h1 : x.1 ∈ sg) (h2 : x.2 = signT ws x.1 b n) : PgOk ws sg b n (ckSg turn s x) := by
  unfold ckSg
  split
  · exact h
  · obtain ⟨hl, hp⟩ := h
    refine ⟨by simp [hl], fun i hi => ?_⟩
    rw [List.length_append, List.length_singleton] at hi
    by_cases hlt : i < s.1.length
    · rw [getD_app_l hlt, getD_app_l (by omega)]
      exact hp i hlt
    · rw [getD_app_r (show i = s.1.length by omega), getD_app_r (show i = s.2.length by omega)]
      obtain ⟨e, hc⟩ := hp turn ht
      refine ⟨by rw [pageT_snoc hn, e, h2], fun ch hch => ?_⟩
      rcases List.mem_append.mp hch with hch | hch
      · exact hc ch hch
      · rw [List.mem_singleton] at hch
        rw [hch]
        exact h1
theorem pg_sgs {ws : List (List Nat)} {sg : List Nat} {b : Int} {n turn : Nat} (hn : n ≤ 3) : ∀ (items : List (Nat × List Nat)) (s : CkS), PgOk ws sg b n s → turn < s.1.length → (∀ x ∈ items, x.1 ∈ sg ∧ x.2 = signT ws x.1 b n) → PgOk ws sg b n (items.foldl (ckSg turn) s)
  | [], s, h, _, _ => h
  | x :: r, s, h, ht, hx => by
    simp only [List.foldl_cons]
    have hx1 := hx x List.mem_cons_self
    exact pg_sgs hn r _ (pg_sg hn h ht hx1.1 hx1.2) (Nat.lt_of_lt_of_le ht (sg_pre turn s x).length_le) fun y hy => hx y (List.mem_cons_of_mem _ hy)
theorem items_what {ws : List (List Nat)} {sg : List Nat} {b : Int} {n : Nat} : ∀ x ∈ itemsOf ws sg b n, x.1 ∈ sg ∧ x.2 = signT ws x.1 b n := by
  intro x hx
  unfold itemsOf at hx
  rw [List.zip_map_right] at hx
  obtain ⟨y, hy, rfl⟩ := List.mem_map.mp hx
  have h1 := List.of_mem_zip (show (y.1, y.2) ∈ sg.zip sg from hy)
  have h2 : y.1 = y.2 := by
    have : ∀ (l : List Nat) (p : Nat × Nat), p ∈ l.zip l → p.1 = p.2 := by
      intro l
      induction l with
      | nil => intro p hp; cases hp
      | cons a r ih =>
        intro p hp
        rcases List.mem_cons.mp hp with rfl | hp
        · rfl
        · exact ih p hp
    exact this _ _ hy
  exact ⟨h1.1, by rw [Prod.map_snd, Prod.map_fst, h2]; rfl⟩
theorem pg_at {ws : List (List Nat)} {sg : List Nat} {b : Int} {n : Nat} (hn : n ≤ 3) (i : Nat) : PgOk ws sg b n (ckAt n (itemsOf ws sg b n) i) := by
  induction i with
  | zero =>
    rw [ckAt_zero]
    refine ⟨rfl, fun i hi => ?_⟩
    have : i = 0 := by simpa using hi
    subst this
    exact ⟨pageT_nil hn ws b, fun ch hc => by simp at hc⟩
  | succ i ih =>
    have e : ckAt n (itemsOf ws sg b n) (i + 1) = ckTurn (itemsOf ws sg b n) (ckAt n (itemsOf ws sg b n) i) i := ckAt_succ
    rw [e]
    unfold ckTurn
    split
    · rename_i h
      exact pg_sgs hn _ _ ih h items_what
    · exact ih
theorem pages_ok {ws : List (List Nat)} {sg : List Nat} {b : Int} {n : Nat} (hn : n ≤ 3) {i : Nat} (hi : i < (kindsOf ws sg b n).length) : pageT ws b n ((pagesOf ws sg b n).getD i []) = (kindsOf ws sg b n).getD i [] ∧ ∀ ch ∈ (pagesOf ws sg b n).getD i [], ch ∈ sg := by
  unfold kindsOf ckK at hi
  unfold kindsOf pagesOf ckK ckP
  exact (pg_at hn 16).2 i hi
/-- closed under the signs, with the plain coat -/
def Closed (ws : List (List Nat)) (sg : List Nat) (b : Int) (n : Nat) (L : List (List Nat)) : Prop := plainT n ∈ L ∧ ∀ t ∈ L, ∀ ch ∈ sg, mulT t (signT ws ch b n) ∈ L
theorem zip_self {ch : Nat} : ∀ l : List Nat, ch ∈ l → (ch, ch) ∈ l.zip l
  | a :: r, h => by
    rcases List.mem_cons.mp h with rfl | h
    · exact List.mem_cons_self
    · exact List.mem_cons_of_mem _ (zip_self r h)
theorem items_mem {ws : List (List Nat)} {sg : List Nat} {b : Int} {n ch : Nat} (h : ch ∈ sg) : (ch, signT ws ch b n) ∈ itemsOf ws sg b n := by
  unfold itemsOf
  rw [List.zip_map_right]
  exact List.mem_map.mpr ⟨(ch, ch), zip_self sg h, rfl⟩
theorem kinds_closed {n : Nat} (hn : n ≤ 3) (ws : List (List Nat)) (sg : List Nat) (b : Int) : Closed ws sg b n (kindsOf ws sg b n) := by
  have h := ck_closed (n := n) (items := itemsOf ws sg b n) hn (items_in hn)
  have h0 := ck_plain (n := n) (items := itemsOf ws sg b n)
  have e : kindsOf ws sg b n = ckK n (itemsOf ws sg b n) := by unfold kindsOf; rfl
  rw [e]
  generalize ckK n (itemsOf ws sg b n) = L at h h0
  exact ⟨h0, fun t ht ch hch => h t ht (ch, signT ws ch b n) (items_mem hch)⟩
theorem closed_page {n : Nat} (hn : n ≤ 3) {ws : List (List Nat)} {sg : List Nat} {b : Int} {L : List (List Nat)} (h : Closed ws sg b n L) (p : List Nat) (hp : ∀ ch ∈ p, ch ∈ sg) : pageT ws b n p ∈ L := by
  have key : ∀ i, i ≤ p.length → pageT ws b n (p.take i) ∈ L := by
    intro i
    induction i with
    | zero => intro _; rw [List.take_zero, pageT_nil hn]; exact h.1
    | succ i ih =>
      intro hi
      have hlt : i < p.length := hi
      have e : p.take (i + 1) = p.take i ++ [p[i]] := by rw [List.take_add_one, List.getElem?_eq_getElem hlt]; rfl
      rw [e, pageT_snoc hn]
      exact h.2 _ (ih (by omega)) _ (hp _ (List.getElem_mem hlt))
  have := key p.length (Nat.le_refl _)
  rwa [List.take_length] at this
theorem closed_sub {n : Nat} (hn : n ≤ 3) {ws : List (List Nat)} {sg : List Nat} {b : Int} {L : List (List Nat)} (h : Closed ws sg b n L) : ∀ k ∈ kindsOf ws sg b n, k ∈ L := by
  intro k hk
  obtain ⟨i, hi, rfl⟩ := List.getElem_of_mem hk
  obtain ⟨h1, h2⟩ := pages_ok hn hi
  rw [List.getD_eq_getElem?_getD, List.getD_eq_getElem?_getD, List.getElem?_eq_getElem hi] at h1
  have := closed_page hn h _ h2
  rw [List.getD_eq_getElem?_getD, h1] at this
  exact this
/-! judgements -/
theorem lcJudge_iff {ws : List (List Nat)} {sg : List Nat} {b : Int} {n : Nat} {t : Tr} {ks : List (List Nat)} : lcJudge ws sg b n t ks = true ↔ Closed ws sg b n ks ∧ ∀ k ∈ ks, evT t b k = true := by
  unfold lcJudge kJudge Closed
  simp only [Bool.and_eq_true, List.all_eq_true, decide_eq_true_eq]
  constructor
  · rintro ⟨h1, h2⟩
    exact ⟨⟨h2, fun k hk => (h1 k hk).2⟩, fun k hk => (h1 k hk).1⟩
  · rintro ⟨⟨h2, h1⟩, h3⟩
    exact ⟨fun k hk => ⟨h3 k hk, h1 k hk⟩, h2⟩
def holdsB (ws : List (List Nat)) (sg : List Nat) (b : Int) (n : Nat) (t : Tr) : Bool := (kindsOf ws sg b n).all (evT t b)
theorem pc_holds {n : Nat} (hn : n ≤ 3) {ws : List (List Nat)} {sg : List Nat} {b : Int} {t : Tr} (h : holdsB ws sg b n t = true) (p : List Nat) : pcJudge ws sg b n t p = false := by
  unfold pcJudge
  split
  · rename_i hp
    have := closed_page hn (kinds_closed hn ws sg b) p (fun ch hc => of_decide_eq_true (List.all_eq_true.mp hp ch hc))
    rw [List.all_eq_true.mp h _ this]
    rfl
  · rfl
theorem lc_holds {n : Nat} (hn : n ≤ 3) {ws : List (List Nat)} {sg : List Nat} {b : Int} {t : Tr} (h : holdsB ws sg b n t = true) : lcJudge ws sg b n t (kindsOf ws sg b n) = true := lcJudge_iff.mpr ⟨kinds_closed hn ws sg b, List.all_eq_true.mp h⟩
theorem lc_breaks {n : Nat} (hn : n ≤ 3) {ws : List (List Nat)} {sg : List Nat} {b : Int} {t : Tr} (h : holdsB ws sg b n t = false) (ks : List (List Nat)) : lcJudge ws sg b n t ks = false := by
  cases e : lcJudge ws sg b n t ks with
  | false => rfl
  | true =>
    obtain ⟨h1, h2⟩ := lcJudge_iff.mp e
    have : holdsB ws sg b n t = true := List.all_eq_true.mpr fun k hk => h2 k (closed_sub hn h1 k hk)
    rw [h] at this
    cases this
/-- the breaker -/
theorem brk_holds {n : Nat} {ws : List (List Nat)} {sg : List Nat} {b : Int} {t : Tr} (h : holdsB ws sg b n t = true) : brkOf (kindsOf ws sg b n) (pagesOf ws sg b n) t b = none := by
  unfold brkOf brkAt
  rw [Option.map_eq_none_iff, List.find?_eq_none]
  intro i hi
  rw [List.all_eq_true.mp h _ (getD_mem (List.mem_range.mp hi))]
  simp
theorem brk_breaks {n : Nat} (hn : n ≤ 3) {ws : List (List Nat)} {sg : List Nat} {b : Int} {t : Tr} (h : holdsB ws sg b n t = false) : ∃ p, brkOf (kindsOf ws sg b n) (pagesOf ws sg b n) t b = some p ∧ pcJudge ws sg b n t p = true ∧ (∀ ch ∈ p, ch ∈ sg) ∧ p.length ≤ 15 := by
  unfold brkOf
  cases e : brkAt (kindsOf ws sg b n) t b with
  | none =>
    exfalso
    unfold brkAt at e
    rw [List.find?_eq_none] at e
    have : holdsB ws sg b n t = true := List.all_eq_true.mpr fun k hk => by
      obtain ⟨i, hi, rfl⟩ := List.getElem_of_mem hk
      have := e i (List.mem_range.mpr hi)
      rw [List.getD_eq_getElem?_getD, List.getElem?_eq_getElem hi] at this
      simpa using this
    rw [h] at this
    cases this
  | some i =>
    have hi : i < (kindsOf ws sg b n).length := List.mem_range.mp (List.mem_of_find?_eq_some e)
    have hf : (!evT t b ((kindsOf ws sg b n).getD i [])) = true := List.find?_some (p := fun i => !evT t b ((kindsOf ws sg b n).getD i [])) e
    obtain ⟨h1, h2⟩ := pages_ok hn hi
    refine ⟨_, rfl, ?_, h2, ?_⟩
    · unfold pcJudge
      rw [if_pos (List.all_eq_true.mpr fun ch hc => decide_eq_true (h2 ch hc)), h1]
      exact hf
    · have hk := kinds_ok (ws := ws) (sg := sg) (b := b) hn
      have h3 := hk.pg i
      have h4 := hk.le hn
      exact Nat.le_trans h3 (by simp only at h4; omega)
theorem kinds_some {n : Nat} {ws : List (List Nat)} {sg : List Nat} {b : Int} : plainT n ∈ kindsOf ws sg b n := by
  unfold kindsOf
  exact ck_plain
theorem not_both {n : Nat} {ws : List (List Nat)} {sg : List Nat} {b : Int} {t : Tr} (h : holdsB ws sg b n t = true) : holdsB ws sg b n (.no t) = false := by
  cases e : holdsB ws sg b n (.no t) with
  | false => rfl
  | true =>
    have h1 := List.all_eq_true.mp h _ kinds_some
    have h2 := List.all_eq_true.mp e _ kinds_some
    have : evT (.no t) b (plainT n) = !evT t b (plainT n) := rfl
    rw [this, h1] at h2
    cases h2
end DR

set_option Elab.async false
set_option linter.all false
set_option maxRecDepth 100000
set_option maxHeartbeats 200000
/-! sayings of the law's tree -/
namespace DR
def rowI (rows : List (List Int)) (i j : Nat) : Int := (rows.getD i []).getD j 0
def plI (rows : List (List Int)) (i : Nat) : Tr := .pl (rowI rows i 0) (rowI rows i 1) (rowI rows i 2)
/-- the law's saying -/
def lawTr (m : Nat) (rows : List (List Int)) : Tr :=
  match m with
  | 0 => plI rows 0
  | 1 => .no (plI rows 0)
  | 2 => .ro (plI rows 0) (plI rows 1)
  | 3 => .an (plI rows 0) (.no (plI rows 1))
  | 4 => .no (.an (plI rows 0) (plI rows 1))
  | 5 => .ro (.no (plI rows 0)) (plI rows 1)
  | 6 => .ro (.an (plI rows 0) (plI rows 1)) (plI rows 2)
  | _ => .ro (plI rows 0) (.no (.an (plI rows 1) (plI rows 2)))
def menuB (m : Nat) (x y z : Bool) : Bool :=
  match m with
  | 0 => x
  | 1 => !x
  | 2 => x || y
  | 3 => x && !y
  | 4 => !(x && y)
  | 5 => !x || y
  | 6 => x && y || z
  | _ => x || !(y && z)
/-- what the law tells of one of its plain sayings -/
def truthI (rows : List (List Int)) (t : List Nat) (low : Int) (i : Nat) : Bool := decide (colours t (rowI rows i 0 - low).toNat (rowI rows i 1 - low).toNat ≥ rowI rows i 2)
def lawSays (m : Nat) (rows : List (List Int)) (t : List Nat) (low : Int) : Bool := menuB m (truthI rows t low 0) (truthI rows t low 1) (truthI rows t low 2)
theorem truth_ev {rows : List (List Int)} {t : List Nat} {low : Int} {n i : Nat} (hn : n ≤ 3) (ht : t ∈ allT n) (hr : ∀ r ∈ rows, okRow low n r) (hi : i < rows.length) : evT (plI rows i) low t = truthI rows t low i := by
  obtain ⟨b, e, k, er, h1, h2, _⟩ := hr (rows.getD i []) (getD_mem hi)
  have e0 : rowI rows i 0 = low + b := by unfold rowI; rw [er]; rfl
  have e1 : rowI rows i 1 = low + e := by unfold rowI; rw [er]; rfl
  unfold plI truthI
  rw [e0, e1, show low + (b : Int) - low = (b : Int) by omega, show low + (e : Int) - low = (e : Int) by omega, Int.toNat_natCast, Int.toNat_natCast, col_ok hn ht h1 h2]
  show plQ t (low + b + -low) (low + e + -low) _ = _
  rw [show low + (b : Int) + -low = (b : Int) by omega, show low + (e : Int) + -low = (e : Int) by omega]
  rfl
theorem ev_no (t : Tr) (b : Int) (k : List Nat) : evT (.no t) b k = !evT t b k := rfl
theorem ev_an (t u : Tr) (b : Int) (k : List Nat) : evT (.an t u) b k = (evT t b k && evT u b k) := rfl
theorem ev_ro (t u : Tr) (b : Int) (k : List Nat) : evT (.ro t u) b k = (evT t b k || evT u b k) := rfl
theorem says_ev {m : Nat} {rows : List (List Int)} {t : List Nat} {low : Int} {n : Nat} (hn : n ≤ 3) (ht : t ∈ allT n) (hm : m < 8) (hl : rows.length = 3) (hr : ∀ r ∈ rows, okRow low n r) : lawSays m rows t low = evT (lawTr m rows) low t := by
  have h0 := truth_ev hn ht hr (show 0 < rows.length by omega)
  have h1 := truth_ev hn ht hr (show 1 < rows.length by omega)
  have h2 := truth_ev hn ht hr (show 2 < rows.length by omega)
  unfold lawSays
  rw [← h0, ← h1, ← h2]
  match m, hm with
  | 0, _ => rfl
  | 1, _ => rfl
  | 2, _ => rfl
  | 3, _ => rfl
  | 4, _ => rfl
  | 5, _ => rfl
  | 6, _ => rfl
  | 7, _ => rfl
theorem lawTr_all {P : Int × Int → Prop} {m : Nat} {rows : List (List Int)} (hl : rows.length = 3) (h : ∀ i, i < 3 → P (rowI rows i 0, rowI rows i 1)) : ∀ p ∈ prs (post (lawTr m rows)), P p := by
  have a0 := h 0 (by omega)
  have a1 := h 1 (by omega)
  have a2 := h 2 (by omega)
  have key : ∀ p ∈ prs (post (lawTr m rows)), p = (rowI rows 0 0, rowI rows 0 1) ∨ p = (rowI rows 1 0, rowI rows 1 1) ∨ p = (rowI rows 2 0, rowI rows 2 1) := by
    intro p hp
    unfold lawTr at hp
    split at hp
    · have hp : p ∈ [(rowI rows 0 0, rowI rows 0 1)] := hp
      simp only [List.mem_cons, List.not_mem_nil, or_false] at hp
      exact .inl hp
    · have hp : p ∈ [(rowI rows 0 0, rowI rows 0 1)] := hp
      simp only [List.mem_cons, List.not_mem_nil, or_false] at hp
      exact .inl hp
    · have hp : p ∈ [(rowI rows 0 0, rowI rows 0 1), (rowI rows 1 0, rowI rows 1 1)] := hp
      simp only [List.mem_cons, List.not_mem_nil, or_false] at hp
      exact hp.imp id .inl
    · have hp : p ∈ [(rowI rows 0 0, rowI rows 0 1), (rowI rows 1 0, rowI rows 1 1)] := hp
      simp only [List.mem_cons, List.not_mem_nil, or_false] at hp
      exact hp.imp id .inl
    · have hp : p ∈ [(rowI rows 0 0, rowI rows 0 1), (rowI rows 1 0, rowI rows 1 1)] := hp
      simp only [List.mem_cons, List.not_mem_nil, or_false] at hp
      exact hp.imp id .inl
    · have hp : p ∈ [(rowI rows 0 0, rowI rows 0 1), (rowI rows 1 0, rowI rows 1 1)] := hp
      simp only [List.mem_cons, List.not_mem_nil, or_false] at hp
      exact hp.imp id .inl
    · have hp : p ∈ [(rowI rows 0 0, rowI rows 0 1), (rowI rows 1 0, rowI rows 1 1), (rowI rows 2 0, rowI rows 2 1)] := hp
      simp only [List.mem_cons, List.not_mem_nil, or_false] at hp
      exact hp
    · have hp : p ∈ [(rowI rows 0 0, rowI rows 0 1), (rowI rows 1 0, rowI rows 1 1), (rowI rows 2 0, rowI rows 2 1)] := hp
      simp only [List.mem_cons, List.not_mem_nil, or_false] at hp
      exact hp
  intro p hp
  rcases key p hp with rfl | rfl | rfl
  · exact a0
  · exact a1
  · exact a2
theorem row_what {rows : List (List Int)} {low : Int} {n i : Nat} (hr : ∀ r ∈ rows, okRow low n r) (hi : i < rows.length) : ∃ (b e : Nat) (k : Int), rowI rows i 0 = low + b ∧ rowI rows i 1 = low + e ∧ rowI rows i 2 = k ∧ b ≤ e ∧ e ≤ n ∧ -1 ≤ k ∧ k ≤ 10 ∧ rows.getD i [] = [low + b, low + e, k] := by
  obtain ⟨b, e, k, er, h⟩ := hr (rows.getD i []) (getD_mem hi)
  refine ⟨b, e, k, ?_, ?_, ?_, h.1, h.2.1, h.2.2.1, h.2.2.2, er⟩ <;> (unfold rowI; rw [er]; rfl)
theorem lawTr_le {m : Nat} {rows : List (List Int)} {low : Int} {n : Nat} (hl : rows.length = 3) (hr : ∀ r ∈ rows, okRow low n r) : PlLe (lawTr m rows) := by
  refine lawTr_all hl fun i hi => ?_
  obtain ⟨b, e, k, e0, e1, _, h1, _⟩ := row_what hr (show i < rows.length by omega)
  simp only [e0, e1]
  omega
theorem lawTr_in {m : Nat} {rows : List (List Int)} {low : Int} {n : Nat} (hl : rows.length = 3) (hr : ∀ r ∈ rows, okRow low n r) : outAt low (low + n) (lawTr m rows) = none := by
  refine outAt_none.mpr (lawTr_all hl fun i hi => ?_)
  obtain ⟨b, e, k, e0, e1, _, h1, h2, _⟩ := row_what hr (show i < rows.length by omega)
  simp only [e0, e1]
  omega
theorem lawTr_size {m : Nat} {rows : List (List Int)} : (lawTr m rows).size ≤ 10 := by
  unfold lawTr
  split <;> simp [Tr.size, plI]
/-! the law's saying and its denial -/
def denT (d : Bool) (t : Tr) : Tr := if d = true then .no t else t
theorem denT_le {d : Bool} {t : Tr} (h : PlLe t) : PlLe (denT d t) := by
  cases d with
  | false => exact h
  | true =>
    intro p hp
    refine h p ?_
    have : post (denT true t) = post t ++ [.no t] := rfl
    rw [this] at hp
    unfold prs at hp ⊢
    simpa [isPl] using hp
theorem denT_out {d : Bool} {t : Tr} {b e : Int} (h : outAt b e t = none) : outAt b e (denT d t) = none := by
  cases d with
  | false => exact h
  | true =>
    rw [outAt_none] at h ⊢
    intro p hp
    refine h p ?_
    have : post (denT true t) = post t ++ [.no t] := rfl
    rw [this] at hp
    unfold prs at hp ⊢
    simpa [isPl] using hp
theorem denT_size {d : Bool} {t : Tr} : (denT d t).size ≤ t.size + 1 := by
  cases d
  · exact Nat.le_succ _
  · exact Nat.le_refl _
theorem denT_ev {d : Bool} {t : Tr} {b : Int} {k : List Nat} : evT (denT d t) b k = (evT t b k != d) := by
  cases d with
  | false => show evT t b k = _; cases evT t b k <;> rfl
  | true => show evT (.no t) b k = _; rw [ev_no]; cases evT t b k <;> rfl
end DR

set_option Elab.async false
set_option linter.all false
set_option maxRecDepth 100000
set_option maxHeartbeats 4000000
namespace DR
open PySem PySem.Spec PyProof.Rows L2
open PySem.W (Frag)
local macro_rules
  | `(tactic| walk_at "wp") => `(tactic| try simp only [L2.start, List.map_cons, List.map_nil, List.length_cons, List.length_nil, List.replicate, Nat.reduceAdd, Nat.reduceSub, List.cons_append, List.nil_append, List.append_nil, List.set_cons_succ, List.set_cons_zero,
      List.getElem?_cons_succ, List.getElem?_cons_zero, ap_K1, ap_K2, ap_seq, ap_next, ap_asg, ap_name, ap_ret, ap_retN, ap_drop, ap_ifS, ap_c, ap_var, ap_op, ap_un, ap_chain, ap_test, ap_B, ap_and, ap_or, ap_not, ap_yes, ap_notV, ap_if, ap_nil, ap_cons, ap_cb, ap_lst, ap_tup, ap_bm, ap_bm0, ap_m1, ap_call, ap_sl, ap_part, ap_nopart, ap_rI0, ap_rI, ap_rU, ap_eqI, ap_neI, ap_eqS, ap_neS, ap_eqB, ap_neB, ap_fld, ap_tup_, ap_gcons, ap_gnil, ap_gsub, ap_for, ap_lc, ap_rng1, ap_rng2, ap_list, ap_itup, ap_str, ap_enum, ap_zip, ap_inSg, ap_ninSg, ap_addS, ap_sfld, ap_meth, ap_prop, ap_make, ap_smeth, ap_never, ap_ost, ap_callS, ap_mko, ap_enumS, ap_zipS, ap_rng3, ap_listRg, ap_dnin, ap_din, ap_dput, ap_gfld, ap_kinds, ap_callO, ap_notN, ap_dc, decide_true, decide_false, Bool.not_true, Bool.not_false,  ap_leS, lit_alpha, tg1, tg2, tg3, tg4, tg5, tg6, eq_self, ap_revL,  ap_rg1, ap_cval, len_abcdef, exists_and_left, exists_and_right, exists_eq_left', and_assoc, exists_eq_left, exists_eq, exists_eq', Option.some.injEq, V.int.injEq, V.str.injEq, V.ref.injEq, V.bl.injEq, V.ty.injEq, List.cons.injEq, and_true, true_and, decide_eq_true_eq, Bool.not_eq_true', decide_eq_false_iff_not, Bool.false_eq_true, if_true, if_false, reduceCtorEq, false_and, and_false, or_false, false_or, or_true, true_or, not_true_eq_false, not_false_eq_true, Int.zero_add, lit_nil, lit_a, tx_len, one_tx, tx_app, tx_inj, exists_const, forall_const])
  | `(tactic| walk_at "om") => `(tactic| repeat (refine ⟨by first | omega | exact szI, ?_⟩))

def sp_law_says (K : Frag) : Sp := fun vs H Q _ => ∃ (a : Addr) (m : Nat) (rows : List (List Int)) (t : List Nat) (low : Int) (n : Nat), vs = [.ref a, .str (tx t), .int low] ∧ LT H a m rows ∧ m < 8 ∧ rows.length = 3 ∧ (∀ r ∈ rows, okRow low n r) ∧ t.length ≤ 100 ∧ ∀ H', Ex H H' → Q (.bl (lawSays m rows t low)) H'
section
variable {ta tb : TE} {σ : L2.St} {H : Hp} {Q : VK} {x y : Bool}
theorem orV_ok (h1 : ∀ Q' : VK, Q' (.bl x) H → ta σ H Q') (h2 : ∀ Q' : VK, Q' (.bl y) H → tb σ H Q') (q : Q (.bl (x || y)) H) : tOrV ta tb σ H Q := h1 _ ⟨x, rfl, by
  cases x
  · exact h2 _ q
  · exact q⟩
theorem andV_ok (h1 : ∀ Q' : VK, Q' (.bl x) H → ta σ H Q') (h2 : ∀ Q' : VK, Q' (.bl y) H → tb σ H Q') (q : Q (.bl (x && y)) H) : tAndV ta tb σ H Q := h1 _ ⟨x, rfl, by
  cases x
  · exact q
  · exact h2 _ q⟩
theorem notV_ok (h1 : ∀ Q' : VK, Q' (.bl x) H → ta σ H Q') (q : Q (.bl (!x)) H) : tNotV ta σ H Q := h1 _ ⟨x, rfl, q⟩
end
theorem len3 {α : Type} {xs : List α} (h : xs.length = 3) : ∃ x y z, xs = [x, y, z] := by
  match xs, h with
  | [x, y, z], _ => exact ⟨x, y, z, rfl⟩
theorem map3 (f : Nat → V) : (List.range 3).map f = [f 0, f 1, f 2] := rfl
theorem sc_law_says : FnScope ["_law_tree_here", "_law_text", "_law_low", "_law_truths", "_law_plain", "_law_counted", "_law_one", "_law_two", "_law_three", "_law_menu"] ["_law_tree_here", "_law_text", "_law_low"] (defScope s_law_says) := ⟨rfl, rfl, rfl, by decide +kernel, rfl, by decide +kernel, by decide +kernel⟩
theorem b_law_says {K : Frag} {mg : Str → Option Value} (c : Wd K mg) : Binds K (fdOf K (gA K "_law_says")) ["_law_tree_here", "_law_text", "_law_low"] [] := c.f_law_says.binds (fun _ _ _ _ _ _ us hl => match us, hl with | [_, _, _], _ => rfl)
theorem ok_law_says {P : Program} {w : World} {K : Frag} {mg : Str → Option Value} {base : Heap} (c : Wd K mg) : FnOk P w K mg base (L2.CX P w) 2 (gA K "_law_says") (fdOf K (gA K "_law_says")) ["_law_tree_here", "_law_text", "_law_low"] (sp_law_says K) := by
  refine c.f_law_says.okX sc_law_says (fun vs H Q E h => ?_) (fun cdv A outer s H vs Q E hr h => ⟨_, PSs.nox (pss_cons (ps_set (i := 3) sc_law_says.nd rfl (Or.inl rfl) (pe_lst pa_nil))
      (pss_cons (ps_for PassesOwn.never rfl (pi_list (pe_slice sl_list (pv 0) (po_some pe_int) po_none)) (pg_name (i := 4) sc_law_says.nd rfl (Or.inl rfl)) (pss_cons (ps_set (i := 5) sc_law_says.nd rfl (Or.inl rfl) (pe_call (ok_law_colours c) (hr.mono (by decide)) rfl c.g_law_colours c.f_law_colours.kp (b_law_colours c) .nil passL (pa_cons (pv 1) (pa_cons (pe_op op_sub (pe_ix ix_list (pv 4) pe_int (fun _ _ => rfl)) (pv 2)) (pa_cons (pe_op op_sub (pe_ix ix_list (pv 4) pe_int (fun _ _ => rfl)) (pv 2)) pa_nil)))))
      (pss_one (ps_expr (pe_bm PySem.F.plainAttrs_list PySem.F.slot_list_append PySem.F.type_list_append mt_append (pv 3) (pa_cons (pe_cmpR op_ge (pv 5) (pe_ix ix_list (pv 4) pe_int (fun _ _ => rfl)) (nomark _)) pa_nil))))))
      (pss_cons (ps_asg (pv 3) (pg_lst (n := 3) rfl (pgs_cons (pg_name (i := 6) sc_law_says.nd rfl (Or.inl rfl)) (pgs_cons (pg_name (i := 7) sc_law_says.nd rfl (Or.inl rfl)) (pgs_cons (pg_name (i := 8) sc_law_says.nd rfl (Or.inl rfl)) pgs_nil)))))
      (pss_cons (ps_set (i := 9) sc_law_says.nd rfl (Or.inl rfl) (pe_lst (pa_cons (pv 6) (pa_cons (pe_not (pv 6)) (pa_cons (pe_or (pv 6) (pe_one (pv 7))) (pa_cons (pe_and (pv 6) (pe_one (pe_not (pv 7)))) pa_nil))))))
      (pss_cons (ps_set (i := 9) sc_law_says.nd rfl (Or.inl rfl) (pe_op op_cat (pv 9) (pe_lst (pa_cons (pe_not (pe_and (pv 6) (pe_one (pv 7)))) (pa_cons (pe_or (pe_not (pv 6)) (pe_one (pv 7))) pa_nil)))))
      (pss_cons (ps_set (i := 9) sc_law_says.nd rfl (Or.inl rfl) (pe_op op_cat (pv 9) (pe_lst (pa_cons (pe_or (pe_and (pv 6) (pe_one (pv 7))) (pe_one (pv 8))) (pa_cons (pe_or (pv 6) (pe_one (pe_not (pe_and (pv 7) (pe_one (pv 8)))))) pa_nil)))))
      (pss_one (ps_ret (pe_ix ix_list (pv 9) (pe_ix ix_list (pv 0) pe_int (fun _ _ => rfl)) (fun _ _ => rfl)))))))))), ?_⟩)
  · obtain ⟨a, m, rows, t, low, n, rfl, hT, hm, hl, hr, htl, hQ⟩ := h
    rfl
  obtain ⟨a, m, rows, t, low, n, rfl, hT, hm, hl, hr, htl, hQ⟩ := h
  walk_at "wp"
  refine ⟨szI, fun p hp => ?_⟩
  have hxp := Evl.Ex.new (o := .lst []) hp
  obtain ⟨as, ha, has, har⟩ := id hT
  rw [hl] at has har
  obtain ⟨a0, a1, a2, rfl⟩ := len3 has
  refine ⟨a, _, rfl, Evl.sq_of (hxp _ _ ha), fun q hq => ?_⟩
  have hcut : cutV (.int (m : Nat) :: [a0, a1, a2].map V.ref) (some 1) none = [a0, a1, a2].map V.ref := by
    unfold cutV
    rw [HT.sIx_none, show (some (1 : Int)) = some ((1 : Nat) : Int) from rfl, HT.sIx_nat] <;> rfl
  rw [hcut]
  have hxq := hxp.trans (Evl.Ex.new (o := .lst ([a0, a1, a2].map V.ref)) hq)
  have hqp : p ≠ q := by rintro rfl; rw [upd_same] at hq; cases hq
  refine ⟨q, rfl, ⟨_, Evl.sq_of upd_same⟩, ?_⟩
  refine lp_list (xs := [a0, a1, a2].map V.ref) (fun i σ' H' => ∃ x y, σ' = [some (.ref a), some (.str (tx t)), some (.int low), some (.ref p), x, y, none, none, none, none] ∧ Ex H H' ∧ H' q = some (.lst ([a0, a1, a2].map V.ref)) ∧ H' p = some (.lst ((List.range i).map fun j => V.bl (truthI rows t low j))))
    ⟨_, _, rfl, hxq, upd_same, by rw [upd_ne hqp, upd_same]; rfl⟩ (fun i σ' H' _ ⟨_, _, _, _, e, _⟩ => Evl.sq_of e) ?_ ?_
  · rintro i v σ' H' hi hv ⟨x, y, rfl, hx, hq', hp'⟩
    have hi : i < 3 := hi
    obtain ⟨ai, e1, e2⟩ := har i hi
    have hv2 : v = .ref ai := by
      rw [List.getElem?_map, e1] at hv
      exact (Option.some.inj hv).symm
    subst hv2
    obtain ⟨b, e, k, r0, r1, r2, hbe, hen, _, _, er⟩ := row_what hr (show i < rows.length by omega)
    rw [er] at e2
    have e3 := hx _ _ e2
    have h3 : SqL K H' ai ([low + b, low + e, k].map V.int) := Evl.sq_of e3
    walk_at "wp"
    refine ixL_v 0 h3 rfl rfl ?_
    walk_at "wp"
    refine ixL_v 1 h3 rfl rfl ?_
    walk_at "wp"
    refine ⟨t, b, e, by rw [show low + (b : Int) - low = b by omega, show low + (e : Int) - low = e by omega], htl, fun H2 hx2 => ?_⟩
    have hp2 := hx2 _ _ hp'
    refine ⟨tyL hp2, ?_⟩
    refine ixL_v 2 (Evl.ex_l hx2 h3) rfl rfl ?_
    walk_at "wp"
    refine app_ok hp2 (by simp; omega) ?_
    refine ⟨(hx.trans hx2).mut hp, ?_, ?_⟩
    · rw [upd_ne (Ne.symm hqp)]
      exact hx2 _ _ hq'
    · have ht : truthI rows t low i = decide (colours t b e ≥ k) := by
        unfold truthI
        rw [r0, r1, r2, show low + (b : Int) - low = (b : Int) by omega, show low + (e : Int) - low = (e : Int) by omega, Int.toNat_natCast, Int.toNat_natCast]
      rw [upd_same, List.range_succ, List.map_append, List.map_singleton, ht]
  · rintro σ' H' ⟨x, y, rfl, hx, hq', hp'⟩
    have hp' : H' p = some (.lst [.bl (truthI rows t low 0), .bl (truthI rows t low 1), .bl (truthI rows t low 2)]) := hp'
    have hls : lawSays m rows t low = menuB m (truthI rows t low 0) (truthI rows t low 1) (truthI rows t low 2) := rfl
    rw [hls] at hQ
    revert hp' hQ
    generalize truthI rows t low 0 = t0
    generalize truthI rows t low 1 = t1
    generalize truthI rows t low 2 = t2
    intro hQ hp'
    walk_at "wp"
    refine ⟨p, _, rfl, Evl.sq_of hp', rfl, ?_⟩
    have fin : ∀ (w0 w1 w2 w3 w4 w5 w6 w7 : Bool) (H5 : Hp) (z : Addr), Ex H' H5 → H5 z = some (.lst [.bl w0, .bl w1, .bl w2, .bl w3, .bl w4, .bl w5, .bl w6, .bl w7]) → (∀ b, [w0, w1, w2, w3, w4, w5, w6, w7][m]? = some b → b = menuB m t0 t1 t2) → rIxL K (.ref a) (.int 0) H5 fun y H6 => rIxL K (.ref z) y H6 Q := by
      intro w0 w1 w2 w3 w4 w5 w6 w7 H5 z h5 hz hb
      refine ixL_v 0 (Evl.sq_of (h5 _ _ (hx _ _ ha))) rfl rfl ?_
      obtain ⟨bb, hbb⟩ : ∃ b, [w0, w1, w2, w3, w4, w5, w6, w7][m]? = some b := ⟨_, List.getElem?_eq_getElem (show m < [w0, w1, w2, w3, w4, w5, w6, w7].length from hm)⟩
      refine ixL_v m (v := .bl bb) (Evl.sq_of hz) rfl ?_ ?_
      · have : ([w0, w1, w2, w3, w4, w5, w6, w7].map V.bl)[m]? = some (.bl bb) := by rw [List.getElem?_map, hbb]; rfl
        exact this
      · rw [hb bb hbb]
        exact hQ _ (hx.trans h5)
    walk_at "wp"
    refine orV_ok (x := t0) (y := t1) (fun Q q => ⟨_, rfl, q⟩) (fun Q q => ⟨_, rfl, q⟩) ?_
    refine andV_ok (x := t0) (y := !t1) (fun Q q => ⟨_, rfl, q⟩) (fun Q q => notV_ok (x := t1) (fun Q q => ⟨_, rfl, q⟩) q) ?_
    refine ⟨szI, fun l1 hl1 => ?_⟩
    have hx1 := Evl.Ex.new (o := .lst [.bl t0, .bl !t0, .bl (t0 || t1), .bl (t0 && !t1)]) hl1
    have h1 : upd H' l1 (.lst [.bl t0, .bl !t0, .bl (t0 || t1), .bl (t0 && !t1)]) l1 = _ := upd_same
    revert hx1 h1
    generalize upd H' l1 (.lst [.bl t0, .bl !t0, .bl (t0 || t1), .bl (t0 && !t1)]) = H1
    intro hx1 h1
    walk_at "wp"
    refine andV_ok (x := t0) (y := t1) (fun Q q => ⟨_, rfl, q⟩) (fun Q q => ⟨_, rfl, q⟩) ?_
    walk_at "wp"
    refine orV_ok (x := !t0) (y := t1) (fun Q q => notV_ok (x := t0) (fun Q q => ⟨_, rfl, q⟩) q) (fun Q q => ⟨_, rfl, q⟩) ?_
    refine ⟨szI, fun l2 hl2 => ?_⟩
    have hx2 := Evl.Ex.new (o := .lst [.bl !(t0 && t1), .bl (!t0 || t1)]) hl2
    refine ⟨l1, l2, _, _, rfl, rfl, hx2 _ _ h1, upd_same, szI (by show 6 ≤ 100000; omega), fun l3 hl3 => ?_⟩
    have hx3 := hx2.trans (Evl.Ex.new (o := .lst ([.bl t0, .bl !t0, .bl (t0 || t1), .bl (t0 && !t1)] ++ [.bl !(t0 && t1), .bl (!t0 || t1)])) hl3)
    have h3 : upd (upd H1 l2 (.lst [.bl !(t0 && t1), .bl (!t0 || t1)])) l3 (.lst ([.bl t0, .bl !t0, .bl (t0 || t1), .bl (t0 && !t1)] ++ [.bl !(t0 && t1), .bl (!t0 || t1)])) l3 = _ := upd_same
    revert hx3 h3
    generalize upd (upd H1 l2 (.lst [.bl !(t0 && t1), .bl (!t0 || t1)])) l3 (.lst ([.bl t0, .bl !t0, .bl (t0 || t1), .bl (t0 && !t1)] ++ [.bl !(t0 && t1), .bl (!t0 || t1)])) = H3
    intro hx3 h3
    walk_at "wp"
    refine orV_ok (x := t0 && t1) (y := t2) (fun Q q => andV_ok (x := t0) (y := t1) (fun Q q => ⟨_, rfl, q⟩) (fun Q q => ⟨_, rfl, q⟩) q) (fun Q q => ⟨_, rfl, q⟩) ?_
    refine orV_ok (x := t0) (y := !(t1 && t2)) (fun Q q => ⟨_, rfl, q⟩) (fun Q q => notV_ok (x := t1 && t2) (fun Q q => andV_ok (x := t1) (y := t2) (fun Q q => ⟨_, rfl, q⟩) (fun Q q => ⟨_, rfl, q⟩) q) q) ?_
    refine ⟨szI, fun l4 hl4 => ?_⟩
    have hx4 := Evl.Ex.new (o := .lst [.bl (t0 && t1 || t2), .bl (t0 || !(t1 && t2))]) hl4
    refine ⟨l3, l4, _, _, rfl, rfl, hx4 _ _ h3, upd_same, szI (by show 8 ≤ 100000; omega), fun l5 hl5 => ?_⟩
    have hx5 := hx4.trans (Evl.Ex.new (o := .lst (([.bl t0, .bl !t0, .bl (t0 || t1), .bl (t0 && !t1)] ++ [.bl !(t0 && t1), .bl (!t0 || t1)]) ++ [.bl (t0 && t1 || t2), .bl (t0 || !(t1 && t2))])) hl5)
    refine fin _ _ _ _ _ _ _ _ _ l5 ((hx1.trans hx3).trans hx5) upd_same ?_
    intro b hb
    match m, hm with
    | 0, _ => exact (Option.some.inj hb).symm
    | 1, _ => exact (Option.some.inj hb).symm
    | 2, _ => exact (Option.some.inj hb).symm
    | 3, _ => exact (Option.some.inj hb).symm
    | 4, _ => exact (Option.some.inj hb).symm
    | 5, _ => exact (Option.some.inj hb).symm
    | 6, _ => exact (Option.some.inj hb).symm
    | 7, _ => exact (Option.some.inj hb).symm
end DR

set_option Elab.async false
set_option linter.all false
set_option maxRecDepth 100000
set_option maxHeartbeats 4000000
namespace DR
open PySem PySem.Spec PyProof.Rows L2
open PySem.W (Frag)
local macro_rules
  | `(tactic| walk_at "wp") => `(tactic| try simp only [L2.start, List.map_cons, List.map_nil, List.length_cons, List.length_nil, List.replicate, Nat.reduceAdd, Nat.reduceSub, List.cons_append, List.nil_append, List.append_nil, List.set_cons_succ, List.set_cons_zero,
      List.getElem?_cons_succ, List.getElem?_cons_zero, ap_K1, ap_K2, ap_seq, ap_next, ap_asg, ap_name, ap_ret, ap_retN, ap_drop, ap_ifS, ap_c, ap_var, ap_op, ap_un, ap_chain, ap_test, ap_B, ap_and, ap_or, ap_not, ap_yes, ap_notV, ap_if, ap_nil, ap_cons, ap_cb, ap_lst, ap_tup, ap_bm, ap_bm0, ap_m1, ap_call, ap_sl, ap_part, ap_nopart, ap_rI0, ap_rI, ap_rU, ap_eqI, ap_neI, ap_eqS, ap_neS, ap_eqB, ap_neB, ap_fld, ap_tup_, ap_gcons, ap_gnil, ap_gsub, ap_for, ap_lc, ap_rng1, ap_rng2, ap_list, ap_itup, ap_str, ap_enum, ap_zip, ap_inSg, ap_ninSg, ap_addS, ap_sfld, ap_meth, ap_prop, ap_make, ap_smeth, ap_never, ap_ost, ap_callS, ap_mko, ap_enumS, ap_zipS, ap_rng3, ap_listRg, ap_dnin, ap_din, ap_dput, ap_gfld, ap_kinds, ap_callO, ap_notN, ap_dc, decide_true, decide_false, Bool.not_true, Bool.not_false,  ap_leS, lit_alpha, tg1, tg2, tg3, tg4, tg5, tg6, eq_self, ap_revL,  ap_rg1, ap_cval, len_abcdef, exists_and_left, exists_and_right, exists_eq_left', and_assoc, exists_eq_left, exists_eq, exists_eq', Option.some.injEq, V.int.injEq, V.str.injEq, V.ref.injEq, V.bl.injEq, V.ty.injEq, List.cons.injEq, and_true, true_and, decide_eq_true_eq, Bool.not_eq_true', decide_eq_false_iff_not, Bool.false_eq_true, if_true, if_false, reduceCtorEq, false_and, and_false, or_false, false_or, or_true, true_or, not_true_eq_false, not_false_eq_true, Int.zero_add, lit_nil, lit_a, tx_len, one_tx, tx_app, tx_inj, exists_const, forall_const])
  | `(tactic| walk_at "om") => `(tactic| repeat (refine ⟨by first | omega | exact szI, ?_⟩))

section
variable {K : Frag} {H : Hp} {Q : VK} {a b : Addr} {t u : Tr} {E : XK}
theorem say2 (f : Tr → Tr → Tr) (ha : SayAt K H a t) (hb : SayAt K H b u) (q : ∀ p H', Ex H H' → SayAt K H' p (f t u) → Q (.ref p) H') : rOwn2 (gA K "Saying") (sp_Saying_2 K f) E (.ref a) (.ref b) H Q := by
  obtain ⟨dx, x, h1, h2⟩ := id ha
  obtain ⟨dy, y, h3, h4⟩ := id hb
  exact ⟨a, b, dx, dy, _, _, rfl, rfl, h1, h3, a, b, t, u, rfl, ha, hb, fun p H' _ e h => q p H' e h⟩
theorem say1 (ha : SayAt K H a t) (q : ∀ p H', Ex H H' → SayAt K H' p (.no t) → Q (.ref p) H') : rOwn1 (gA K "Saying") (sp_Saying_invert K) E (.ref a) H Q := by
  obtain ⟨dx, x, h1, h2⟩ := id ha
  exact ⟨a, dx, _, rfl, h1, a, t, rfl, ha, fun p H' _ e h => q p H' e h⟩
end
def sp_law_saying (K : Frag) : Sp := fun vs H Q _ => ∃ (a : Addr) (m : Nat) (rows : List (List Int)) (low : Int) (n : Nat), vs = [.ref a] ∧ LT H a m rows ∧ m < 8 ∧ rows.length = 3 ∧ (∀ r ∈ rows, okRow low n r) ∧ ∀ p H', Ex H H' → SayAt K H' p (lawTr m rows) → Q (.ref p) H'
theorem sc_law_saying : FnScope ["_law_tree_here", "_law_one", "_law_two", "_law_three", "_law_menu"] ["_law_tree_here"] (defScope s_law_saying) := ⟨rfl, rfl, rfl, by decide +kernel, rfl, by decide +kernel, by decide +kernel⟩
theorem b_law_saying {K : Frag} {mg : Str → Option Value} (c : Wd K mg) : Binds K (fdOf K (gA K "_law_saying")) ["_law_tree_here"] [] := c.f_law_saying.binds (fun _ _ _ _ _ _ us hl => match us, hl with | [_], _ => rfl)
theorem ok_law_saying {P : Program} {w : World} {K : Frag} {mg : Str → Option Value} {base : Heap} (c : Wd K mg) : FnOk P w K mg base (L2.CX P w) 6 (gA K "_law_saying") (fdOf K (gA K "_law_saying")) ["_law_tree_here"] (sp_law_saying K) := by
  refine c.f_law_saying.okX sc_law_saying (fun vs H Q E h => ?_) (fun cdv A outer s H vs Q E hr h => ⟨_, PSs.nox (pss_cons (ps_set (i := 1) sc_law_saying.nd rfl (Or.inl rfl) (pe_smeth (pe_cls rfl c.g_Saying) c.s_Saying_least (ok_Saying_least c) (hr.mono (by decide)) (b_Saying_least c) passL (pa_cons (pe_ix ix_list (pe_ix ix_list (pv 0) pe_int (fun _ _ => rfl)) pe_int (fun _ _ => rfl)) (pa_cons (pe_ix ix_list (pe_ix ix_list (pv 0) pe_int (fun _ _ => rfl)) pe_int (fun _ _ => rfl)) (pa_cons (pe_ix ix_list (pe_ix ix_list (pv 0) pe_int (fun _ _ => rfl)) pe_int (fun _ _ => rfl)) pa_nil)))))
      (pss_cons (ps_set (i := 2) sc_law_saying.nd rfl (Or.inl rfl) (pe_smeth (pe_cls rfl c.g_Saying) c.s_Saying_least (ok_Saying_least c) (hr.mono (by decide)) (b_Saying_least c) passL (pa_cons (pe_ix ix_list (pe_ix ix_list (pv 0) pe_int (fun _ _ => rfl)) pe_int (fun _ _ => rfl)) (pa_cons (pe_ix ix_list (pe_ix ix_list (pv 0) pe_int (fun _ _ => rfl)) pe_int (fun _ _ => rfl)) (pa_cons (pe_ix ix_list (pe_ix ix_list (pv 0) pe_int (fun _ _ => rfl)) pe_int (fun _ _ => rfl)) pa_nil)))))
      (pss_cons (ps_set (i := 3) sc_law_saying.nd rfl (Or.inl rfl) (pe_smeth (pe_cls rfl c.g_Saying) c.s_Saying_least (ok_Saying_least c) (hr.mono (by decide)) (b_Saying_least c) passL (pa_cons (pe_ix ix_list (pe_ix ix_list (pv 0) pe_int (fun _ _ => rfl)) pe_int (fun _ _ => rfl)) (pa_cons (pe_ix ix_list (pe_ix ix_list (pv 0) pe_int (fun _ _ => rfl)) pe_int (fun _ _ => rfl)) (pa_cons (pe_ix ix_list (pe_ix ix_list (pv 0) pe_int (fun _ _ => rfl)) pe_int (fun _ _ => rfl)) pa_nil)))))
      (pss_cons (ps_set (i := 4) sc_law_saying.nd rfl (Or.inl rfl) (pe_lst (pa_cons (pv 1) (pa_cons (pe_un (un_ownInvM (ok_Saying_invert c) (hr.mono (by decide)) (b_Saying_invert c) passL c.m_Saying_invert) (pv 1)) (pa_cons (pe_op (op_own2n (m := "__or__") (by decide +kernel) (ok_Saying_or c) (hr.mono (by decide)) (b_Saying_or c) passL c.sf_Saying c.m_Saying_or) (pv 1) (pv 2)) (pa_cons (pe_op (op_own2n (m := "__and__") (by decide +kernel) (ok_Saying_and c) (hr.mono (by decide)) (b_Saying_and c) passL c.sf_Saying c.m_Saying_and) (pv 1) (pe_un (un_ownInvM (ok_Saying_invert c) (hr.mono (by decide)) (b_Saying_invert c) passL c.m_Saying_invert) (pv 2))) pa_nil))))))
      (pss_cons (ps_set (i := 4) sc_law_saying.nd rfl (Or.inl rfl) (pe_op op_cat (pv 4) (pe_lst (pa_cons (pe_un (un_ownInvM (ok_Saying_invert c) (hr.mono (by decide)) (b_Saying_invert c) passL c.m_Saying_invert) (pe_op (op_own2n (m := "__and__") (by decide +kernel) (ok_Saying_and c) (hr.mono (by decide)) (b_Saying_and c) passL c.sf_Saying c.m_Saying_and) (pv 1) (pv 2))) (pa_cons (pe_op (op_own2n (m := "__or__") (by decide +kernel) (ok_Saying_or c) (hr.mono (by decide)) (b_Saying_or c) passL c.sf_Saying c.m_Saying_or) (pe_un (un_ownInvM (ok_Saying_invert c) (hr.mono (by decide)) (b_Saying_invert c) passL c.m_Saying_invert) (pv 1)) (pv 2)) pa_nil)))))
      (pss_cons (ps_set (i := 4) sc_law_saying.nd rfl (Or.inl rfl) (pe_op op_cat (pv 4) (pe_lst (pa_cons (pe_op (op_own2n (m := "__or__") (by decide +kernel) (ok_Saying_or c) (hr.mono (by decide)) (b_Saying_or c) passL c.sf_Saying c.m_Saying_or) (pe_op (op_own2n (m := "__and__") (by decide +kernel) (ok_Saying_and c) (hr.mono (by decide)) (b_Saying_and c) passL c.sf_Saying c.m_Saying_and) (pv 1) (pv 2)) (pv 3)) (pa_cons (pe_op (op_own2n (m := "__or__") (by decide +kernel) (ok_Saying_or c) (hr.mono (by decide)) (b_Saying_or c) passL c.sf_Saying c.m_Saying_or) (pv 1) (pe_un (un_ownInvM (ok_Saying_invert c) (hr.mono (by decide)) (b_Saying_invert c) passL c.m_Saying_invert) (pe_op (op_own2n (m := "__and__") (by decide +kernel) (ok_Saying_and c) (hr.mono (by decide)) (b_Saying_and c) passL c.sf_Saying c.m_Saying_and) (pv 2) (pv 3)))) pa_nil)))))
      (pss_one (ps_ret (pe_ix ix_list (pv 4) (pe_ix ix_list (pv 0) pe_int (fun _ _ => rfl)) (fun _ _ => rfl)))))))))), ?_⟩)
  · obtain ⟨a, m, rows, low, n, rfl, hT, hm, hl, hr, hQ⟩ := h
    rfl
  obtain ⟨a, m, rows, low, n, rfl, hT, hm, hl, hr, hQ⟩ := h
  obtain ⟨as, ha, has, har⟩ := id hT
  rw [hl] at has har
  obtain ⟨a0, a1, a2, rfl⟩ := len3 has
  have row : ∀ i, i < 3 → ∀ ai, [a0, a1, a2][i]? = some ai → ∀ H', Ex H H' → SqL K H' a (.int (m : Nat) :: [a0, a1, a2].map V.ref) ∧ SqL K H' ai ([rowI rows i 0, rowI rows i 1, rowI rows i 2].map V.int) ∧ rowI rows i 0 ≤ rowI rows i 1 := by
    intro i hi ai hai H' e
    obtain ⟨aj, e1, e2⟩ := har i hi
    rw [hai] at e1
    cases e1
    obtain ⟨b, e', k, r0, r1, r2, hbe, hen, _, _, er⟩ := row_what hr (show i < rows.length by omega)
    rw [er] at e2
    exact ⟨Evl.sq_of (e _ _ ha), by rw [r0, r1, r2]; exact Evl.sq_of (e _ _ e2), by rw [r0, r1]; omega⟩
  walk_at "wp"
  obtain ⟨q1, q2, q3⟩ := row 0 (by omega) a0 rfl H (Evl.Ex.refl _)
  refine ixL_v 1 q1 rfl rfl ?_
  refine ixL_v 0 q2 rfl rfl ?_
  refine ixL_v 1 q1 rfl rfl ?_
  refine ixL_v 1 q2 rfl rfl ?_
  refine ixL_v 1 q1 rfl rfl ?_
  refine ixL_v 2 q2 rfl rfl ?_
  refine ⟨_, _, _, rfl, q3, fun s0 H1 _ hx1 h1 => ?_⟩
  clear q1 q2 q3
  walk_at "wp"
  obtain ⟨q1, q2, q3⟩ := row 1 (by omega) a1 rfl H1 hx1
  refine ixL_v 2 q1 rfl rfl ?_
  refine ixL_v 0 q2 rfl rfl ?_
  refine ixL_v 2 q1 rfl rfl ?_
  refine ixL_v 1 q2 rfl rfl ?_
  refine ixL_v 2 q1 rfl rfl ?_
  refine ixL_v 2 q2 rfl rfl ?_
  refine ⟨_, _, _, rfl, q3, fun s1 H2 _ hx2 h2 => ?_⟩
  clear q1 q2 q3
  walk_at "wp"
  have hx12 := hx1.trans hx2
  obtain ⟨q1, q2, q3⟩ := row 2 (by omega) a2 rfl H2 hx12
  refine ixL_v 3 q1 rfl rfl ?_
  refine ixL_v 0 q2 rfl rfl ?_
  refine ixL_v 3 q1 rfl rfl ?_
  refine ixL_v 1 q2 rfl rfl ?_
  refine ixL_v 3 q1 rfl rfl ?_
  refine ixL_v 2 q2 rfl rfl ?_
  refine ⟨_, _, _, rfl, q3, fun s2 H3 _ hx3 h3 => ?_⟩
  clear q1 q2 q3
  have hx13 := hx12.trans hx3
  have g0 : SayAt K H3 s0 (plI rows 0) := (SayAt.mono hx2 h1).mono hx3
  have g1 : SayAt K H3 s1 (plI rows 1) := SayAt.mono hx3 h2
  have g2 : SayAt K H3 s2 (plI rows 2) := h3
  have fin : ∀ (w0 w1 w2 w3 w4 w5 w6 w7 : Addr) (H5 : Hp) (z : Addr), Ex H3 H5 → H5 z = some (.lst [.ref w0, .ref w1, .ref w2, .ref w3, .ref w4, .ref w5, .ref w6, .ref w7]) → (∀ b, [w0, w1, w2, w3, w4, w5, w6, w7][m]? = some b → SayAt K H5 b (lawTr m rows)) → rIxL K (.ref a) (.int 0) H5 fun y H6 => rIxL K (.ref z) y H6 Q := by
    intro w0 w1 w2 w3 w4 w5 w6 w7 H5 z h5 hz hb
    refine ixL_v 0 (Evl.sq_of (h5 _ _ (hx13 _ _ ha))) rfl rfl ?_
    obtain ⟨bb, hbb⟩ : ∃ b, [w0, w1, w2, w3, w4, w5, w6, w7][m]? = some b := ⟨_, List.getElem?_eq_getElem (show m < [w0, w1, w2, w3, w4, w5, w6, w7].length from hm)⟩
    refine ixL_v m (v := .ref bb) (Evl.sq_of hz) rfl ?_ ?_
    · have : ([w0, w1, w2, w3, w4, w5, w6, w7].map V.ref)[m]? = some (.ref bb) := by rw [List.getElem?_map, hbb]; rfl
      exact this
    · exact hQ _ _ (hx13.trans h5) (hb bb hbb)
  clear row har hT hr
  walk_at "wp"
  refine say1 g0 fun w1 H4 hx4 k1 => ?_
  walk_at "wp"
  refine say2 .ro (g0.mono hx4) (g1.mono hx4) fun w2 H5 hx5 k2 => ?_
  have e5 := hx4.trans hx5
  walk_at "wp"
  refine say1 (g1.mono e5) fun w3' H6 hx6 k3' => ?_
  have e6 := e5.trans hx6
  refine say2 .an (g0.mono e6) k3' fun w3 H7 hx7 k3 => ?_
  have e7 := e6.trans hx7
  refine ⟨szI (by show 4 ≤ 100000; omega), fun l1 hl1 => ?_⟩
  have hx8 := Evl.Ex.new (o := .lst [.ref s0, .ref w1, .ref w2, .ref w3]) hl1
  have p1 : upd H7 l1 (.lst [.ref s0, .ref w1, .ref w2, .ref w3]) l1 = _ := upd_same
  revert hx8 p1
  generalize upd H7 l1 (.lst [.ref s0, .ref w1, .ref w2, .ref w3]) = H8
  intro hx8 p1
  have e8 := e7.trans hx8
  have k1 : SayAt K H8 w1 (.no (plI rows 0)) := k1.mono (hx5.trans (hx6.trans (hx7.trans hx8)))
  have k2 : SayAt K H8 w2 (.ro (plI rows 0) (plI rows 1)) := k2.mono (hx6.trans (hx7.trans hx8))
  have k3 : SayAt K H8 w3 (.an (plI rows 0) (.no (plI rows 1))) := k3.mono hx8
  clear k3' hx4 hx5 hx6 hx7 e5 e6 e7
  walk_at "wp"
  refine say2 .an (g0.mono e8) (g1.mono e8) fun w4' H9 hx9 k4' => ?_
  refine say1 k4' fun w4 H10 hx10 k4 => ?_
  have e10 := e8.trans (hx9.trans hx10)
  walk_at "wp"
  refine say1 (g0.mono e10) fun w5' H11 hx11 k5' => ?_
  have e11 := e10.trans hx11
  refine say2 .ro k5' (g1.mono e11) fun w5 H12 hx12' k5 => ?_
  have e12 := e11.trans hx12'
  refine ⟨szI (by show 2 ≤ 100000; omega), fun l2 hl2 => ?_⟩
  have hx13' := Evl.Ex.new (o := .lst [.ref w4, .ref w5]) hl2
  have c8 := ((hx9.trans hx10).trans hx11).trans (hx12'.trans hx13')
  refine ⟨l1, l2, _, _, rfl, rfl, c8 _ _ p1, upd_same, szI (by show 6 ≤ 100000; omega), fun l3 hl3 => ?_⟩
  have hx14 := hx13'.trans (Evl.Ex.new (o := .lst ([.ref s0, .ref w1, .ref w2, .ref w3] ++ [.ref w4, .ref w5])) hl3)
  have p3 : upd (upd H12 l2 (.lst [.ref w4, .ref w5])) l3 (.lst ([.ref s0, .ref w1, .ref w2, .ref w3] ++ [.ref w4, .ref w5])) l3 = _ := upd_same
  revert hx14 p3
  generalize upd (upd H12 l2 (.lst [.ref w4, .ref w5])) l3 (.lst ([.ref s0, .ref w1, .ref w2, .ref w3] ++ [.ref w4, .ref w5])) = H13
  intro hx14 p3
  have c13 := ((hx9.trans hx10).trans hx11).trans (hx12'.trans hx14)
  have e13 := e8.trans c13
  have k1 := k1.mono c13
  have k2 := k2.mono c13
  have k3 := k3.mono c13
  have k4 : SayAt K H13 w4 (.no (.an (plI rows 0) (plI rows 1))) := k4.mono (hx11.trans (hx12'.trans hx14))
  have k5 : SayAt K H13 w5 (.ro (.no (plI rows 0)) (plI rows 1)) := k5.mono hx14
  clear hx9 hx10 hx11 hx12' hx13' k4' k5' hx14 e10 e11 e12 c8 c13
  walk_at "wp"
  refine say2 .an (g0.mono e13) (g1.mono e13) fun w6' H14 hx14 k6' => ?_
  have e14 := e13.trans hx14
  refine say2 .ro k6' (g2.mono e14) fun w6 H15 hx15 k6 => ?_
  have e15 := e14.trans hx15
  walk_at "wp"
  refine say2 .an (g1.mono e15) (g2.mono e15) fun w7'' H16 hx16 k7'' => ?_
  refine say1 k7'' fun w7' H17 hx17 k7' => ?_
  have e17 := e15.trans (hx16.trans hx17)
  refine say2 .ro (g0.mono e17) k7' fun w7 H18 hx18 k7 => ?_
  refine ⟨szI (by show 2 ≤ 100000; omega), fun l4 hl4 => ?_⟩
  have hx19 := Evl.Ex.new (o := .lst [.ref w6, .ref w7]) hl4
  have c19 := (hx14.trans hx15).trans ((hx16.trans hx17).trans (hx18.trans hx19))
  refine ⟨l3, l4, _, _, rfl, rfl, c19 _ _ p3, upd_same, szI (by show 8 ≤ 100000; omega), fun l5 hl5 => ?_⟩
  have hx20 := hx19.trans (Evl.Ex.new (o := .lst (([.ref s0, .ref w1, .ref w2, .ref w3] ++ [.ref w4, .ref w5]) ++ [.ref w6, .ref w7])) hl5)
  have c20 := (hx14.trans hx15).trans ((hx16.trans hx17).trans (hx18.trans hx20))
  refine fin _ _ _ _ _ _ _ _ _ l5 (e13.trans c20) upd_same ?_
  intro b hb
  match m, hm with
  | 0, _ => cases hb; exact (g0.mono e13).mono c20
  | 1, _ => cases hb; exact k1.mono c20
  | 2, _ => cases hb; exact k2.mono c20
  | 3, _ => cases hb; exact k3.mono c20
  | 4, _ => cases hb; exact k4.mono c20
  | 5, _ => cases hb; exact k5.mono c20
  | 6, _ => cases hb; exact k6.mono ((hx16.trans hx17).trans (hx18.trans hx20))
  | 7, _ => cases hb; exact k7.mono hx20
def lawClosedB (texts coats : List (List Nat)) (n : Nat) : Bool := decide (plainT n ∈ texts) && texts.all fun t => coats.all fun k => decide (lawCoatProduct t k ∈ texts)
def sp_law_closed (K : Frag) : Sp := fun vs H Q _ => ∃ (a b : Addr) (texts coats : List (List Nat)) (n : Nat), vs = [.ref a, .ref b, .int (n : Nat)] ∧ SqL K H a (sv texts) ∧ SqL K H b (sv coats) ∧ n ≤ 5 ∧ (∀ t ∈ texts, t.length ≤ 6) ∧ (∀ t ∈ coats, t.length ≤ 6) ∧ ∀ H', Ex H H' → Q (.bl (lawClosedB texts coats n)) H'
theorem sv_at {ts : List (List Nat)} {i : Nat} {v : V} (hi : i < (sv ts).length) (h : (sv ts)[i]? = some v) : v = .str (tx (ts.getD i [])) ∧ i < ts.length ∧ ts.getD i [] ∈ ts := by
  rw [sv_len] at hi
  unfold sv at h
  rw [List.getElem?_map, List.getElem?_eq_getElem hi] at h
  refine ⟨?_, hi, getD_mem hi⟩
  rw [List.getD_eq_getElem?_getD, List.getElem?_eq_getElem hi]
  exact (Option.some.inj h).symm
theorem all_to {α : Type} {xs : List α} {d : α} {f : α → Bool} (h : ∀ j, j < xs.length → f (xs.getD j d) = true) : xs.all f = true := by
  rw [List.all_eq_true]
  intro x hx
  obtain ⟨j, hj, rfl⟩ := List.getElem_of_mem hx
  have := h j hj
  rwa [List.getD_eq_getElem?_getD, List.getElem?_eq_getElem hj] at this
theorem all_no {α : Type} {xs : List α} {x : α} {f : α → Bool} (hx : x ∈ xs) (h : f x = false) : xs.all f = false := by
  rw [List.all_eq_false]
  exact ⟨x, hx, by rw [h]; exact Bool.false_ne_true⟩
theorem sc_law_closed : FnScope ["_law_texts", "_law_coats", "_law_size", "_law_text", "_law_coat"] ["_law_texts", "_law_coats", "_law_size"] (defScope s_law_closed) := ⟨rfl, rfl, rfl, by decide +kernel, rfl, by decide +kernel, by decide +kernel⟩
theorem b_law_closed {K : Frag} {mg : Str → Option Value} (c : Wd K mg) : Binds K (fdOf K (gA K "_law_closed")) ["_law_texts", "_law_coats", "_law_size"] [] := c.f_law_closed.binds (fun _ _ _ _ _ _ us hl => match us, hl with | [_, _, _], _ => rfl)
theorem ok_law_closed {P : Program} {w : World} {K : Frag} {mg : Str → Option Value} {base : Heap} (c : Wd K mg) : FnOk P w K mg base (L2.CX P w) 3 (gA K "_law_closed") (fdOf K (gA K "_law_closed")) ["_law_texts", "_law_coats", "_law_size"] (sp_law_closed K) := by
  refine c.f_law_closed.okX sc_law_closed (fun vs H Q E h => ?_) (fun cdv A outer s H vs Q E hr h => ⟨_, PSs.nox (pss_cons (ps_if (pt_cmpR op_notIn_seq (pe_op op_mul_str pe_str (pe_op op_add (pv 2) pe_int)) (pv 0) rfl) (pss_one (ps_ret pe_bl)) pss_nil)
      (pss_cons (ps_for PassesOwn.never rfl (pi_list (pv 0)) (pg_name (i := 3) sc_law_closed.nd rfl (Or.inl rfl)) (pss_one (ps_for PassesOwn.never rfl (pi_list (pv 1)) (pg_name (i := 4) sc_law_closed.nd rfl (Or.inl rfl)) (pss_one (ps_if (pt_cmpR op_notIn_seq (pe_call (ok_law_coat_product c) (hr.mono (by decide)) rfl c.g_law_coat_product c.f_law_coat_product.kp (b_law_coat_product c) .nil passL (pa_cons (pv 3) (pa_cons (pv 4) pa_nil))) (pv 0) rfl) (pss_one (ps_ret pe_bl)) pss_nil)))))
      (pss_one (ps_ret pe_bl)))), ?_⟩)
  · obtain ⟨a, b, texts, coats, n, rfl, ha, hb, hn, ht, hk, hQ⟩ := h
    rfl
  obtain ⟨a, b, texts, coats, n, rfl, ha, hb, hn, ht, hk, hQ⟩ := h
  walk_at "wp"
  refine mulS_a (n := n) (by omega) (by omega) (in_sv ha ?_)
  walk_at "wp"
  split <;> rename_i h
  · have : lawClosedB texts coats n = false := by
      unfold lawClosedB
      rw [decide_eq_false (by simpa using h)]
      rfl
    rw [← this]
    exact hQ _ (Evl.Ex.refl _)
  have hp : plainT n ∈ texts := by simpa using h
  refine ⟨⟨_, ha⟩, ?_⟩
  refine lp_list (fun i σ' H' => ∃ x y, σ' = [some (.ref a), some (.ref b), some (.int n), x, y] ∧ Ex H H' ∧ ∀ j, j < i → (coats.all fun k => decide (lawCoatProduct (texts.getD j []) k ∈ texts)) = true) ⟨_, _, rfl, Evl.Ex.refl _, fun j hj => absurd hj (Nat.not_lt_zero j)⟩ (fun i σ' H' _ ⟨_, _, _, e, _⟩ => Evl.ex_l e ha) ?_ ?_
  · rintro i v σ' H1 hi hv ⟨x, y, rfl, hx1, hj⟩
    obtain ⟨rfl, hi2, hm⟩ := sv_at hi hv
    walk_at "wp"
    refine ⟨⟨_, Evl.ex_l hx1 hb⟩, ?_⟩
    refine lp_list (fun i2 σ' H' => ∃ y, σ' = [some (.ref a), some (.ref b), some (.int n), some (.str (tx (texts.getD i []))), y] ∧ Ex H1 H' ∧ ∀ j, j < i2 → decide (lawCoatProduct (texts.getD i []) (coats.getD j []) ∈ texts) = true) ⟨_, rfl, Evl.Ex.refl _, fun j hj => absurd hj (Nat.not_lt_zero j)⟩ (fun i σ' H' _ ⟨_, _, e, _⟩ => Evl.ex_l (hx1.trans e) hb) ?_ ?_
    · rintro i2 v2 σ' H2 hi3 hv2 ⟨y, rfl, hx2, hj2⟩
      obtain ⟨rfl, hi4, hm2⟩ := sv_at hi3 hv2
      walk_at "wp"
      refine ⟨texts.getD i [], coats.getD i2 [], rfl, ht _ hm, hk _ hm2, fun H3 hx3 => ?_⟩
      have hx13 := (hx1.trans hx2).trans hx3
      refine in_sv (Evl.ex_l hx13 ha) ?_
      walk_at "wp"
      split <;> rename_i h2
      · have : lawClosedB texts coats n = false := by
          unfold lawClosedB
          rw [all_no hm (all_no hm2 (decide_eq_false (by simpa using h2))), Bool.and_false]
        rw [← this]
        exact hQ _ hx13
      · refine ⟨hx2.trans hx3, fun j hj' => ?_⟩
        by_cases e : j < i2
        · exact of_decide_eq_true (hj2 j e)
        · have : j = i2 := by omega
          subst this
          simpa using h2
    · rintro σ' H2 ⟨y, rfl, hx2, hj2⟩
      walk_at "wp"
      refine ⟨hx1.trans hx2, fun j hj' => ?_⟩
      by_cases e : j < i
      · exact hj j e
      · have : j = i := by omega
        subst this
        rw [sv_len] at hj2
        exact all_to (d := []) hj2
  · rintro σ' H1 ⟨x, y, rfl, hx1, hj⟩
    walk_at "wp"
    have : lawClosedB texts coats n = true := by
      unfold lawClosedB
      rw [sv_len] at hj
      rw [decide_eq_true hp, all_to (d := []) hj]
      rfl
    rw [← this]
    exact hQ _ hx1
end DR

set_option Elab.async false
set_option linter.all false
set_option maxRecDepth 100000
set_option maxHeartbeats 4000000
/-! len(set(text)) -/
namespace DR
open PySem PySem.Spec PyProof.Rows L2
open PySem.W (Frag)
def dedS (l : List Str) (x : Str) : List Str := if l.any (· == x) then l else l ++ [x]
def metS (val : Nat → Str) (i : Nat) : List Str := ((List.range i).map val).foldl dedS []
theorem metS_succ (val : Nat → Str) (i : Nat) : metS val (i + 1) = dedS (metS val i) (val i) := by simp [metS, List.range_succ, List.foldl_append]
theorem dedS_len (l : List Str) (x : Str) : (dedS l x).length = if l.any (· == x) then l.length else l.length + 1 := by unfold dedS; split <;> simp
theorem dedS_any (l : List Str) (x k : Str) : (dedS l x).any (· == k) = (l.any (· == k) || decide (k = x)) := by
  unfold dedS
  split <;> rename_i h
  · by_cases e : k = x
    · rw [e, h]; simp
    · simp [e]
  · rw [List.any_append, List.any_cons, List.any_nil, Bool.or_false]
    congr 1
    by_cases e : k = x
    · rw [e]; simp
    · have hne : (x == k) = false := beq_eq_false_iff_ne.mpr (fun q => e q.symm)
      simp [e, hne]
theorem metS_le (val : Nat → Str) (i : Nat) : (metS val i).length ≤ i := by
  induction i with
  | zero => exact Nat.le_refl _
  | succ j ih => rw [metS_succ, dedS_len]; split <;> omega
section
variable {P : Program} {w : World} {A : Around} {Rs : Result → Shared → Prop} {it sa : Addr} {fp wr : List Addr} {G : Array GenState → Array GenState → Prop} {n : Nat} {Pv : Nat → Value → Prop} {St : Nat → Shared → Prop}
theorem loopTxt (W : WalksS P w A.in1 it fp wr G n Pv St) (off : sa ∉ fp) (val : Nat → Str) (hv : ∀ i v, Pv i v → ∃ t, v = .str (val i) t) (small : n + 1 < scanBound) : ∀ (m i : Nat) (s : Shared), n - i = m → i ≤ n → St i s → s.heap.SetOf (strKind P w) sa (fun q => (metS val i).any (· == q)) (metS val i).length →
    (∀ s2, Moved (sa :: wr) G s s2 → s2.heap.SetOf (strKind P w) sa (fun q => (metS val n).any (· == q)) (metS val n).length → Rs (.ok (.ret .none)) s2) → codeAny (model P w) A (.builtin "set.update.loop" ⟨[.ref sa, .ref it], []⟩) Rs s := by
  have offw : sa ∉ wr := fun z => off (W.sub _ z)
  have more : ∀ b, b ∈ wr → b ∈ sa :: wr := fun b z => List.mem_cons_of_mem _ z
  intro m
  induction m with
  | zero =>
    intro i s em hi st so fin
    obtain rfl : i = n := by omega
    refine codeAny_builtin PyProof.Rows.F.entry_set_update_loop ((Around.under_plainId PyProof.Rows.F.plain_set_update_loop _) ▸ ?_)
    show wpAny _ A.in1 (pyNext (.ref it) >>= _) _ _ s
    refine wpAny_bind (W.done s _ _ st fun s2 mv => ?_)
    obtain ⟨o, es, ep, tb, ho, more2⟩ := so
    exact wpAny_pure (fin s2 (mv.mono more) ⟨o, es, ep, tb, mv.heap sa _ offw ho, more2⟩)
  | succ m ih =>
    intro i s em hi st so fin
    have lt : i < n := by omega
    refine codeAny_builtin PyProof.Rows.F.entry_set_update_loop ((Around.under_plainId PyProof.Rows.F.plain_set_update_loop _) ▸ ?_)
    show wpAny _ A.in1 (pyNext (.ref it) >>= _) _ _ s
    refine wpAny_bind (W.item i s _ _ lt st fun v s2 pv st2 mv => ?_)
    obtain ⟨tk, rfl⟩ := hv i v pv
    have so2 : s2.heap.SetOf (strKind P w) sa (fun q => (metS val i).any (· == q)) (metS val i).length := by
      obtain ⟨o, es, ep, tb, ho, more2⟩ := so
      exact ⟨o, es, ep, tb, mv.heap sa _ offw ho, more2⟩
    show wpAny _ A.in1 (holding [Value.str (val i) tk] (setAdd sa (.str (val i) tk)) >>= _) _ _ s2
    refine wpAny_bind (wpAny_holding ?_)
    unfold setAdd
    refine wpAny_holding (wpAny_bind ((strKind P w).pyHash (k := val i) (strKind_is _ _ _ _) ?_))
    have room : (metS val i).length + 1 < scanBound := Nat.lt_of_le_of_lt (Nat.succ_le_succ (Nat.le_trans (metS_le val i) hi)) small
    refine wpAny_setAddHashed_of (knd := strKind P w) (s := { s2 with toks := s2.toks + 1 }) (strKind_is _ _ _ _) rfl so2 room fun h3 sb so3 => ?_
    have so4 : h3.SetOf (strKind P w) sa (fun q => (metS val (i + 1)).any (· == q)) (metS val (i + 1)).length := SetOf_congr so3 (fun q => by rw [metS_succ, dedS_any]) (by rw [metS_succ, dedS_len])
    refine wpAny_pure ⟨plainId_quiet PyProof.Rows.F.plain_set_update_loop _, ih (i + 1) _ (by omega) lt (W.frame _ s2 _ _ st2 (Nat.le_succ _) fun b hb o e => ?_) so4 fun s4 mv4 so5 => ?_⟩
    · exact (sb.2 b (fun z => off (z ▸ hb))).trans e
    · refine fin s4 (Moved.trans W.gtrans ((mv.mono more).then_heap (Nat.le_succ _) fun b o hb e => ?_) mv4) so5
      exact (sb.2 b (fun z => hb (z ▸ List.mem_cons_self))).trans e
end
theorem sub_str_set : isSubtype (.type "str") (.type "set") = pure false := by rw [isSubtype_type]; kernel_rfl
theorem sub_str_frozenset : isSubtype (.type "str") (.type "frozenset") = pure false := by rw [isSubtype_type]; kernel_rfl
section
variable {P : Program} {w : World} {A : Around} {E : Value → Shared → Prop} {s : Shared}
set_option maxHeartbeats 8000000 in
theorem call_set_text {x : Str} {tx0 : Tok} {Q : Value → Shared → Prop} (hh : A.handled = none) (small : x.cps.size + 1 < scanBound)
    (h : ∀ (h' : Heap) (tk : Nat), h'.SetOf (strKind P w) s.heap.objs.size (fun q => (metS (fun i => ⟨#[x.cps.toList.getD i 0]⟩) x.cps.size).any (· == q)) (metS (fun i => ⟨#[x.cps.toList.getD i 0]⟩) x.cps.size).length →
      (∀ b o, b < s.heap.objs.size → s.heap.get? b = some o → h'.get? b = some o) → Q (.ref s.heap.objs.size) { s with heap := h', toks := tk }) : wpAny (model P w) A (call (.type "set") [.str x tx0]) Q E s := by
  obtain ⟨mc, mt, hm⟩ := PySem.F.called_set.mro
  have g1 := PySem.F.called_set.made
  have g2 := PySem.F.called_set.sub
  refine wpAny_call (codeAny_of_tree ?_)
  show wpAny _ _ (callAny (.type "set") _) _ _ _
  refine wpAny_pure ⟨Code.quiet_builtin _ (by decide +kernel), codeAny_builtin PySem.F.entry_type_call ?_⟩
  rw [Around.under_plain (weight_type_call_type "set" [.str x tx0] []) rfl]
  have g3 := PySem.F.called_set.notType
  have g4 := PySem.F.called_set.canCreate
  have g5 := PySem.F.typeCall_set_1 (.str x tx0)
  repeat (any_goals (first | assumption | wp_step))
  refine codeAny_mono (code_set_new_1 (.str x tx0) (E := E) (Q₁ := fun ob s1 => ∃ b : Bool, ob = .ref s.heap.objs.size ∧ s1 = { s with heap := s.heap.push { cls := .type "set", dict := none, data := .set #[] 0 (.fresh 0 0 b) } }) fun b => ⟨b, rfl, rfl⟩) fun r s1 hr => ?_
  cases r with
  | error e => exact hr
  | ok fl =>
    cases fl with
    | ret ob =>
      obtain ⟨b, rfl, rfl⟩ := hr
      have hS : (s.heap.push { cls := .type "set", dict := none, data := .set #[] 0 (.fresh 0 0 b) }).get? s.heap.objs.size = some { cls := .type "set", dict := none, data := .set #[] 0 (.fresh 0 0 b) } := Heap.get?_push_size _ rfl
      have hT : Shared.TypeIs { s with heap := s.heap.push { cls := .type "set", dict := none, data := .set #[] 0 (.fresh 0 0 b) } } (.ref s.heap.objs.size) "set" := ⟨_, hS, rfl⟩
      have g6 := PySem.F.called_set.init.lookup
      have g7 := PySem.F.called_set.init.bind (.ref s.heap.objs.size)
      repeat (any_goals (first | assumption | wp_step))
      refine codeAny_mono (codeAny_call_builtin (R := wants (fun r s2 => r = .none ∧ ∃ h' tk, s2 = { s with heap := h', toks := tk } ∧ h'.SetOf (strKind P w) s.heap.objs.size (fun q => (metS (fun i => ⟨#[x.cps.toList.getD i 0]⟩) x.cps.size).any (· == q)) (metS (fun i => ⟨#[x.cps.toList.getD i 0]⟩) x.cps.size).length ∧
          (∀ b o, b < s.heap.objs.size → s.heap.get? b = some o → h'.get? b = some o)) E) PySem.F.called_set.init.plain PySem.F.entry_set_init (check_set_init_1 hT ?_)) fun r2 s2 hr2 => ?_
      · have f1 := sub_str_set
        have f2 := sub_str_frozenset
        have f3 : (Value.type "str" == Value.type "dict") = false := by decide
        unfold Builtin.«set.__init__» noKeywords Builtin.Frozenset.updateFrom
        generalize hPI : pyIter = PI
        wp_walk
        subst hPI
        refine wpAny_pyIter_str fun o St mk st => ?_
        have hsz : (s.heap.push { cls := .type "set", dict := none, data := .set #[] 0 (.fresh 0 0 b) }).objs.size = s.heap.objs.size + 1 := Heap.size_push _ _
        refine wpAny_bind (wpAny_runValue ?_)
        refine loopTxt (mk A.in1.in1.in1 (by simp [hh])).toS ?_ (fun i => ⟨#[x.cps.toList.getD i 0]⟩) (fun i v hv => ?_) small (x.cps.size - 0) 0 _ rfl (Nat.zero_le _) st ?_ fun s2 mv so => ?_
        · rw [hsz, List.mem_singleton]
          exact Nat.ne_of_lt (Nat.lt_succ_self _)
        · obtain ⟨c, u, e1, rfl⟩ := hv
          refine ⟨u, ?_⟩
          rw [List.getD_eq_getElem?_getD, Array.getElem?_toList, e1]
          rfl
        · exact SetOf_congr ((PyProof.Rows.setObjOf_fresh (knd := strKind P w) b).setOf (Heap.get?_push_of_some _ hS) (by unfold scanBound; omega)) (fun _ => rfl) rfl
        · obtain ⟨h', g', d', tk', os'⟩ := s2
          obtain rfl : g' = s.gens := mv.gens
          obtain rfl : d' = s.drawn := mv.drawn
          obtain rfl : os' = s.os := mv.os
          show wpAny _ _ _ _ _ _
          refine wpAny_pure ?_
          show wpAny _ _ (ret Value.none) _ _ _
          refine wpAny_pure ⟨rfl, h', tk', rfl, so, fun c oc hc ec => mv.heap c oc ?_ (Heap.get?_push_of_some _ (Heap.get?_push_of_some _ ec))⟩
          rw [List.mem_cons, List.mem_singleton, hsz]
          exact fun z => z.elim (Nat.ne_of_lt hc) (Nat.ne_of_lt (Nat.lt_succ_of_lt hc))
      · cases r2 with
        | error e => exact hr2
        | ok fl2 =>
          cases fl2 with
          | ret r =>
            obtain ⟨rfl, h', tk, rfl, so, kp⟩ := hr2
            repeat (any_goals (first | assumption | wp_step))
            exact h _ _ so kp
          | _ => exact hr2.elim
    | _ => exact hr.elim
end
/-! letters of a text, each once -/
def dedN (l : List Nat) (c : Nat) : List Nat := if c ∈ l then l else l ++ [c]
def lets (t : List Nat) : List Nat := t.foldl dedN []
theorem metS_lets (t : List Nat) (i : Nat) (h : i ≤ t.length) : metS (fun j => ⟨#[t.getD j 0]⟩) i = (lets (t.take i)).map fun c => ⟨#[c]⟩ := by
  induction i with
  | zero => rfl
  | succ i ih =>
    have hlt : i < t.length := h
    have e : t.take (i + 1) = t.take i ++ [t.getD i 0] := by
      rw [List.take_add_one, List.getElem?_eq_getElem hlt, List.getD_eq_getElem?_getD, List.getElem?_eq_getElem hlt]
      rfl
    rw [metS_succ, ih (by omega), e]
    unfold lets
    rw [List.foldl_append]
    generalize (t.take i).foldl dedN [] = l
    generalize t.getD i 0 = c
    have key : (l.map fun c => (⟨#[c]⟩ : Str)).any (· == ⟨#[c]⟩) = decide (c ∈ l) := by
      rw [List.any_map]
      induction l with
      | nil => rfl
      | cons a r ih =>
        rw [List.any_cons, ih]
        by_cases q : a = c
        · subst q
          simp
        · have hb : ((⟨#[a]⟩ : Str) == ⟨#[c]⟩) = false := beq_eq_false_iff_ne.mpr fun z => q (by simpa using z)
          have hq : ¬ c = a := fun z => q z.symm
          show (((⟨#[a]⟩ : Str) == ⟨#[c]⟩) || decide (c ∈ r)) = decide (c ∈ a :: r)
          rw [hb]
          simp [hq]
    show dedS _ _ = (dedN l c).map _
    unfold dedS dedN
    rw [key]
    by_cases q : c ∈ l
    · simp [q]
    · simp [q]
def tLenLets (ta : TE) : TE := fun σ H Q => ta σ H fun x H1 => ∃ t : List Nat, x = .str (tx t) ∧ t.length ≤ 100 ∧ Q (.int ((lets t).length : Nat)) H1
theorem pe_lenLets {X : Cx} {a : Expr} {ta : TE} {p p2 q pos : Pos} (hc : X.calm = true) (hg : Gl X "len") (hm : X.mg "len" = none) (hg2 : Gl X "set") (hm2 : X.mg "set" = none) (ha : PE X a ta)
    (na : starEach [a] X.env = (false, eval a X.env) :: starEach [] X.env := by rfl) : PE X (.Call (.Name "len" p) [.Call (.Name "set" p2) [a] [] q] [] pos) (tLenLets ta) := by
  refine ⟨fun pins s σ H Q I hw => ?_⟩
  refine Call_ (ld_blt I hg hm boot_len (PyProof.Rows.callWith_builtin1 (PyProof.Rows.args_cons ?_ rfl) rfl rfl))
  refine Call_ (ld_blt I hg2 hm2 boot_set (PyProof.Rows.callWith_type1 (PyProof.Rows.args_cons (thn (ha.run pins s σ H _ I hw) fun v s1 ⟨x, H1, I1, r1, q1⟩ => PyProof.Rows.args_nil ?_) na) na rfl))
  obtain ⟨t, rfl, ht, q1⟩ := q1
  obtain ⟨tk, rfl⟩ := (show ∃ k, v = Value.str (tx t) k from r1)
  have hz : (tx t).cps.size = t.length := by simp [tx]
  have hl : (tx t).cps.toList = t := tx_toList t
  refine call_set_text (I1.ok.hd hc) (by rw [hz]; unfold scanBound; omega) fun h' tk so kp => PyProof.Rows.args_nil ?_
  rw [hz, hl, metS_lets t t.length (Nat.le_refl _), List.take_length, List.length_map] at so
  obtain ⟨o, es, ep, tb, ho, hex, hd, _, _, _, hf, hn⟩ := so
  have I2 : Inv X pins σ H1 { s1 with heap := h', toks := tk } := I1.kept fun b o e => kp b o (Heap.lt_size e) e
  have hlen : (lets t).length ≤ 100 := by
    have : ∀ (u l : List Nat), (u.foldl dedN l).length ≤ l.length + u.length := by
      intro u
      induction u with
      | nil => intro l; simp
      | cons c r ih =>
        intro l
        have h1 := ih (dedN l c)
        have h2 : (dedN l c).length ≤ l.length + 1 := by unfold dedN; split <;> simp
        simp only [List.foldl_cons, List.length_cons]
        omega
    have := this t []
    simp only [List.length_nil, Nat.zero_add] at this
    unfold lets
    omega
  exact call_len_set ho hex hd hf (by rw [hn]; omega) ⟨.int (lets t).length, H1, I2.tok _, ⟨_, by rw [hn]⟩, q1⟩
theorem ap_lst_ {K : Frag} {n : Nat} {ts : TGs} {v : V} {σ : L2.St} {H : Hp} {Q : L2.St → Hp → Prop} : gLst K n ts v σ H Q = ∃ a xs, v = .ref a ∧ SqL K H a xs ∧ xs.length = n ∧ ts xs σ H Q := rfl
theorem ap_lenLets {ta : TE} {σ : L2.St} {H : Hp} {Q : VK} : tLenLets ta σ H Q = ta σ H fun x H1 => ∃ t : List Nat, x = .str (tx t) ∧ t.length ≤ 100 ∧ Q (.int ((lets t).length : Nat)) H1 := rfl
end DR

set_option Elab.async false
set_option linter.all false
set_option maxRecDepth 100000
set_option maxHeartbeats 4000000
namespace DR
open PySem PySem.Spec PyProof.Rows L2
open PySem.W (Frag)
local macro_rules
  | `(tactic| walk_at "wp") => `(tactic| try simp only [L2.start, List.map_cons, List.map_nil, List.length_cons, List.length_nil, List.replicate, Nat.reduceAdd, Nat.reduceSub, List.cons_append, List.nil_append, List.append_nil, List.set_cons_succ, List.set_cons_zero,
      List.getElem?_cons_succ, List.getElem?_cons_zero, ap_K1, ap_K2, ap_seq, ap_next, ap_asg, ap_name, ap_ret, ap_retN, ap_drop, ap_ifS, ap_c, ap_var, ap_op, ap_un, ap_chain, ap_test, ap_B, ap_and, ap_or, ap_not, ap_yes, ap_notV, ap_if, ap_nil, ap_cons, ap_cb, ap_lst, ap_tup, ap_bm, ap_bm0, ap_m1, ap_call, ap_sl, ap_part, ap_nopart, ap_rI0, ap_rI, ap_rU, ap_eqI, ap_neI, ap_eqS, ap_neS, ap_eqB, ap_neB, ap_fld, ap_tup_, ap_gcons, ap_gnil, ap_gsub, ap_for, ap_lc, ap_rng1, ap_rng2, ap_list, ap_itup, ap_str, ap_enum, ap_zip, ap_inSg, ap_ninSg, ap_addS, ap_sfld, ap_meth, ap_prop, ap_make, ap_smeth, ap_never, ap_ost, ap_callS, ap_mko, ap_enumS, ap_zipS, ap_rng3, ap_listRg, ap_dnin, ap_din, ap_dput, ap_gfld, ap_kinds, ap_callO, ap_notN, ap_dc, ap_lenLets, ap_lst_, decide_true, decide_false, Bool.not_true, Bool.not_false,  ap_leS, lit_alpha, tg1, tg2, tg3, tg4, tg5, tg6, eq_self, ap_revL,  ap_rg1, ap_cval, len_abcdef, exists_and_left, exists_and_right, exists_eq_left', and_assoc, exists_eq_left, exists_eq, exists_eq', Option.some.injEq, V.int.injEq, V.str.injEq, V.ref.injEq, V.bl.injEq, V.ty.injEq, List.cons.injEq, and_true, true_and, decide_eq_true_eq, Bool.not_eq_true', decide_eq_false_iff_not, Bool.false_eq_true, if_true, if_false, reduceCtorEq, false_and, and_false, or_false, false_or, or_true, true_or, not_true_eq_false, not_false_eq_true, Int.zero_add, lit_nil, lit_a, tx_len, one_tx, tx_app, tx_inj, exists_const, forall_const])
  | `(tactic| walk_at "om") => `(tactic| repeat (refine ⟨by first | omega | exact szI, ?_⟩))

theorem mod_nat (v i n : Nat) : ((v : Int) + (i : Int)) % (n : Int) = (((v + i) % n : Nat) : Int) := by
  rw [← Int.natCast_add, ← Int.natCast_emod]
def sp_law_drawn_page (K : Frag) : Sp := fun vs H Q _ => ∃ (st ce : Addr) (ls sg : List Nat), vs = [.ref st, .str (tx ls), .str (tx sg)] ∧ StAt H st ce ∧ 1 ≤ ls.length ∧ ls.length ≤ 26 ∧ sg.length ≤ 26 ∧ ∀ (p : List Nat) H', ExD H H' → StAt H' st ce → p.length ≤ 24 → (∀ ch ∈ p, ch ∈ ls ∨ ch ∈ sg) → Q (.str (tx p)) H'
theorem sc_law_drawn_page : FnScope ["_law_state", "_law_letters", "_law_signs", "_law_page", "_law_k", "_law_char"] ["_law_state", "_law_letters", "_law_signs"] (defScope s_law_drawn_page) := ⟨rfl, rfl, rfl, by decide +kernel, rfl, by decide +kernel, by decide +kernel⟩
theorem b_law_drawn_page {K : Frag} {mg : Str → Option Value} (c : Wd K mg) : Binds K (fdOf K (gA K "_law_drawn_page")) ["_law_state", "_law_letters", "_law_signs"] [] := c.f_law_drawn_page.binds (fun _ _ _ _ _ _ us hl => match us, hl with | [_, _, _], _ => rfl)
theorem ok_law_drawn_page {P : Program} {w : World} {K : Frag} {mg : Str → Option Value} {base : Heap} (c : Wd K mg) : FnOk P w K mg base (L2.CX P w) 3 (gA K "_law_drawn_page") (fdOf K (gA K "_law_drawn_page")) ["_law_state", "_law_letters", "_law_signs"] (sp_law_drawn_page K) := by
  refine c.f_law_drawn_page.okX sc_law_drawn_page (fun vs H Q E h => ?_) (fun cdv A outer s H vs Q E hr h => ⟨_, PSs.nox (pss_cons (ps_set (i := 3) sc_law_drawn_page.nd rfl (Or.inl rfl) pe_str)
      (pss_cons (ps_for PassesOwn.never rfl (pi_range1 rfl c.z_range (pa_cons (pe_op op_mod (pe_callTy call_int1 (by rfl) c.z_int (by decide +kernel) (pa_cons (pe_op op_add (pe_call (ok_law_draw c) (hr.mono (by decide)) rfl c.g_law_draw c.f_law_draw.kp (b_law_draw c) .nil passL (pa_cons (pv 0) (pa_cons pe_int pa_nil))) pe_int) pa_nil)) pe_int) pa_nil)) (pg_name (i := 4) sc_law_drawn_page.nd rfl (Or.inl rfl)) (pss_cons (ps_set (i := 5) sc_law_drawn_page.nd rfl (Or.inl rfl) (pe_ix ix_str (pv 1) (pe_op op_mod (pe_callTy call_int1 (by rfl) c.z_int (by decide +kernel) (pa_cons (pe_op op_add (pe_call (ok_law_draw c) (hr.mono (by decide)) rfl c.g_law_draw c.f_law_draw.kp (b_law_draw c) .nil passL (pa_cons (pv 0) (pa_cons (pe_callB call_len_str (by rfl) c.z_len (by decide +kernel) (pa_cons (pv 1) pa_nil)) pa_nil))) (pv 4)) pa_nil)) (pe_callB call_len_str (by rfl) c.z_len (by decide +kernel) (pa_cons (pv 1) pa_nil))) (fun _ _ => rfl)))
      (pss_cons (ps_if (PW.pt (pw_and (pt_cmpR op_ne (pv 2) pe_str (nomark _)) (pw_and1 (pt_cmpR op_ne (pe_call (ok_law_draw c) (hr.mono (by decide)) rfl c.g_law_draw c.f_law_draw.kp (b_law_draw c) .nil passL (pa_cons (pv 0) (pa_cons pe_int pa_nil))) pe_int (nomark _))))) (pss_one (ps_set (i := 5) sc_law_drawn_page.nd rfl (Or.inl rfl) (pe_ix ix_str (pv 2) (pe_op op_mod (pe_callTy call_int1 (by rfl) c.z_int (by decide +kernel) (pa_cons (pe_op op_add (pe_call (ok_law_draw c) (hr.mono (by decide)) rfl c.g_law_draw c.f_law_draw.kp (b_law_draw c) .nil passL (pa_cons (pv 0) (pa_cons (pe_callB call_len_str (by rfl) c.z_len (by decide +kernel) (pa_cons (pv 2) pa_nil)) pa_nil))) (pv 4)) pa_nil)) (pe_callB call_len_str (by rfl) c.z_len (by decide +kernel) (pa_cons (pv 2) pa_nil))) (fun _ _ => rfl)))) pss_nil)
      (pss_one (ps_set (i := 3) sc_law_drawn_page.nd rfl (Or.inl rfl) (pe_op op_addS (pv 3) (pv 5)))))))
      (pss_cons (ps_if (pt_cmpR op_eq (pe_call (ok_law_draw c) (hr.mono (by decide)) rfl c.g_law_draw c.f_law_draw.kp (b_law_draw c) .nil passL (pa_cons (pv 0) (pa_cons pe_int pa_nil))) pe_int (nomark _)) (pss_one (ps_set (i := 3) sc_law_drawn_page.nd rfl (Or.inl rfl) (pe_op op_mul_str (pv 3) pe_int))) pss_nil)
      (pss_one (ps_ret (pv 3)))))), ?_⟩)
  · obtain ⟨st, ce, ls, sg, rfl, hst, hl1, hl2, hsl, hQ⟩ := h
    rfl
  obtain ⟨st, ce, ls, sg, rfl, hst, hl1, hl2, hsl, hQ⟩ := h
  walk_at "wp"
  refine ⟨st, ce, 5, rfl, hst, by omega, by omega, fun v H0 hv hx0 hs0 => ?_⟩
  walk_at "wp"
  have hm : ((v : Int) + 2) % 5 = (((v + 2) % 5 : Nat) : Int) := mod_nat v 2 5
  have hm4 : (v + 2) % 5 < 5 := Nat.mod_lt _ (by omega)
  rw [hm]
  revert hm4
  generalize (v + 2) % 5 = m
  intro hm4
  refine ⟨by omega, ?_⟩
  walk_at "om"
  rw [Int.toNat_natCast]
  refine lp_rng (fun i σ' H' => ∃ x y, ∃ p : List Nat, σ' = [some (.ref st), some (.str (tx ls)), some (.str (tx sg)), some (.str (tx p)), x, y] ∧ ExD H H' ∧ StAt H' st ce ∧ p.length = i ∧ ∀ ch ∈ p, ch ∈ ls ∨ ch ∈ sg)
    ⟨_, _, [], rfl, hx0, hs0, rfl, fun ch h => nomatch h⟩ ?_ ?_
  · rintro i σ' H' hi ⟨x, y, p, rfl, hx, hs, hpl, hp⟩
    walk_at "wp"
    refine ⟨szI, st, ce, ls.length, rfl, hs, by omega, by omega, fun v H1 hv hx1 hs1 => ?_⟩
    walk_at "wp"
    refine ⟨szI, by omega, ?_⟩
    refine ixS_t ((v + i) % ls.length) (mod_nat _ _ _) (Nat.mod_lt _ (by omega)) (by omega) ?_
    have hc : ls.getD ((v + i) % ls.length) 0 ∈ ls := getD_mem (Nat.mod_lt _ (by omega))
    revert hc
    generalize ls.getD ((v + i) % ls.length) 0 = c1
    intro hc
    have hx01 := hx.trans hx1
    have fin : ∀ (c2 : Nat) (H2 : Hp), (c2 ∈ ls ∨ c2 ∈ sg) → ExD H H2 → StAt H2 st ce → p.length + [c2].length ≤ sizeLine ∧ ExD H H2 ∧ StAt H2 st ce ∧ (p ++ [c2]).length = i + 1 ∧ ∀ ch ∈ p ++ [c2], ch ∈ ls ∨ ch ∈ sg := by
      intro c2 H2 h2 hx2 hs2
      refine ⟨szI (by rw [List.length_singleton]; omega), hx2, hs2, by rw [List.length_append, List.length_singleton, hpl], fun ch h => ?_⟩
      rcases List.mem_append.mp h with h | h
      · exact hp ch h
      · rw [List.mem_singleton] at h
        rw [h]
        exact h2
    by_cases he : sg = []
    · subst he
      walk_at "wp"
      obtain ⟨f1, f2⟩ := fin c1 H1 (.inl hc) hx01 hs1
      exact ⟨f1, f2⟩
    · have hpos : 0 < sg.length := List.length_pos_iff.mpr he
      have hne : (decide (sg = [])) = false := decide_eq_false he
      walk_at "wp"
      rw [if_pos he]
      refine ⟨st, ce, 4, rfl, hs1, by omega, by omega, fun v4 H2 hv4 hx2 hs2 => ?_⟩
      walk_at "wp"
      have hx02 := hx01.trans hx2
      split <;> rename_i h4
      · refine ⟨szI, st, ce, sg.length, rfl, hs2, by omega, by omega, fun v5 H3 hv5 hx3 hs3 => ?_⟩
        walk_at "wp"
        refine ⟨szI, by omega, ?_⟩
        refine ixS_t ((v5 + i) % sg.length) (mod_nat _ _ _) (Nat.mod_lt _ (by omega)) (by omega) ?_
        have hc2 : sg.getD ((v5 + i) % sg.length) 0 ∈ sg := getD_mem (Nat.mod_lt _ (by omega))
        revert hc2
        generalize sg.getD ((v5 + i) % sg.length) 0 = c2
        intro hc2
        walk_at "wp"
        obtain ⟨f1, f2⟩ := fin c2 H3 (.inr hc2) (hx02.trans hx3) hs3
        exact ⟨f1, f2⟩
      · obtain ⟨f1, f2⟩ := fin c1 H2 (.inl hc) hx02 hs2
        exact ⟨f1, f2⟩
  · rintro σ' H' ⟨x, y, p, rfl, hx, hs, hpl, hp⟩
    walk_at "wp"
    refine ⟨st, ce, 4, rfl, hs, by omega, by omega, fun v H1 hv hx1 hs1 => ?_⟩
    walk_at "wp"
    split <;> rename_i h3
    · refine ⟨p, 6, rfl, rfl, by omega, by omega, hQ _ _ (hx.trans hx1) hs1 ?_ fun ch h => ?_⟩
      · have : (List.replicate 6 p).flatten.length = 6 * p.length := by simp; omega
        rw [this]
        omega
      · obtain ⟨q, hq, hc⟩ := List.mem_flatten.mp h
        rw [(List.mem_replicate.mp hq).2] at hc
        exact hp ch hc
    · exact hQ _ _ (hx.trans hx1) hs1 (by omega) hp
/-! drawn texts of coats -/
def drAll (k : Nat) : Bool := (allT k).all fun t => (List.range (1 + (lets t).length)).all fun v => decide (t ++ [97 + v] ∈ allT (k + 1)) && decide (v < 6)
theorem dr_ok {k : Nat} (hk : k < 3) {t : List Nat} (ht : t ∈ allT k) {v : Nat} (hv : v < 1 + (lets t).length) : t ++ [97 + v] ∈ allT (k + 1) ∧ v < 6 := by
  have : drAll k = true := by
    match k, hk with
    | 0, _ => decide +kernel
    | 1, _ => decide +kernel
    | 2, _ => decide +kernel
  obtain ⟨h1, h2⟩ := He.ba (List.all_eq_true.mp (List.all_eq_true.mp this t ht) v (List.mem_range.mpr hv))
  exact ⟨of_decide_eq_true h1, of_decide_eq_true h2⟩
theorem letsLen {t : List Nat} : (lets t).length ≤ t.length := by
  have : ∀ (u l : List Nat), (u.foldl dedN l).length ≤ l.length + u.length := by
    intro u
    induction u with
    | nil => intro l; simp
    | cons c r ih =>
      intro l
      have h1 := ih (dedN l c)
      have h2 : (dedN l c).length ≤ l.length + 1 := by unfold dedN; split <;> simp
      simp only [List.foldl_cons, List.length_cons]
      omega
  have := this t []
  simp only [List.length_nil, Nat.zero_add] at this
  exact this
theorem t0_in : [97] ∈ allT 0 := by decide +kernel
def sp_law_drawn_list (K : Frag) : Sp := fun vs H Q _ => ∃ (st ce a b : Addr) (turn n : Nat) (ks gs : List (List Nat)), vs = [.ref st, .int (turn : Nat), .ref a, .ref b, .int (n : Nat)] ∧ StAt H st ce ∧ H a = some (.lst (sv ks)) ∧ H b = some (.lst (sv gs)) ∧ 1 ≤ ks.length ∧ ks.length ≤ 100 ∧ gs.length ≤ 100 ∧ n ≤ 3 ∧ (∀ t ∈ ks, t ∈ allT n) ∧ (∀ t ∈ gs, t ∈ allT n) ∧
  ∀ (p : Addr) (ts : List (List Nat)) H', ExD H H' → StAt H' st ce → H' p = some (.lst (sv ts)) → ts.length ≤ 200 → (∀ t ∈ ts, t ∈ allT n) → Q (.ref p) H'
def LsOk (n m : Nat) (H : Hp) (p : Addr) : Prop := ∃ ts, H p = some (.lst (sv ts)) ∧ ts.length ≤ m ∧ ∀ t ∈ ts, t ∈ allT n
theorem cut_sv {ks : List (List Nat)} {lo hi : Option Int} : ∃ ts, cutV (sv ks) lo hi = sv ts ∧ ts.length ≤ ks.length ∧ ∀ t ∈ ts, t ∈ ks := by
  refine ⟨(ks.drop (HT.sIx (sv ks).length 0 lo)).take (HT.sIx (sv ks).length (sv ks).length hi - HT.sIx (sv ks).length 0 lo), ?_, ?_, fun t h => List.mem_of_mem_drop (List.mem_of_mem_take h)⟩
  · unfold cutV
    conv => lhs; unfold sv
    rw [← List.map_drop, ← List.map_take]
    rfl
  · rw [List.length_take, List.length_drop]
    omega
section
variable {K : Frag} {n m k : Nat} {H H' : Hp} {a b : Addr} {Q : VK}
theorem LsOk.mono (e : Ex H H') (h : LsOk n m H a) : LsOk n m H' a := by
  obtain ⟨ts, h1, h2⟩ := h
  exact ⟨ts, e _ _ h1, h2⟩
theorem sl_ls {lo hi : Option Int} (h : LsOk n m H a) (q : ∀ p H', Ex H H' → LsOk n m H' p → Q (.ref p) H') : rSlL K (.ref a) lo hi H Q := by
  obtain ⟨ts, h1, h2, h3⟩ := h
  obtain ⟨us, e1, e2, e3⟩ := cut_sv (ks := ts) (lo := lo) (hi := hi)
  refine ⟨a, _, rfl, Evl.sq_of h1, fun p hp => q p _ (Evl.Ex.new hp) ⟨us, ?_, by omega, fun t ht => h3 t (e3 t ht)⟩⟩
  rw [e1]
  exact upd_same
theorem cat_ls (h : LsOk n m H a) (h' : LsOk n k H b) (hz : m + k ≤ 1000) (q : ∀ p H', Ex H H' → LsOk n (m + k) H' p → Q (.ref p) H') : rCat (.ref a) (.ref b) H Q := by
  obtain ⟨ts, h1, h2, h3⟩ := h
  obtain ⟨us, h4, h5, h6⟩ := h'
  refine ⟨a, b, _, _, rfl, rfl, h1, h4, szI (by rw [sv_len, sv_len]; omega), fun p hp => q p _ (Evl.Ex.new hp) ⟨ts ++ us, ?_, by rw [List.length_append]; omega, fun t ht => (List.mem_append.mp ht).elim (h3 t) (h6 t)⟩⟩
  rw [upd_same]
  simp [sv]
theorem list_ls (h : LsOk n m H a) (q : ∀ p H', Ex H H' → LsOk n m H' p → Q (.ref p) H') : rListV K [.ref a] H Q := by
  obtain ⟨ts, h1, h2, h3⟩ := h
  exact list_l (Evl.sq_of h1) fun p hp => q p _ (Evl.Ex.new hp) ⟨ts, upd_same, h2, h3⟩
theorem rev_ls (h : LsOk n m H a) (q : ∀ p H', Ex H H' → LsOk n m H' p → Q (.ref p) H') : rRevL K (.ref a) H Q := by
  obtain ⟨ts, h1, h2, h3⟩ := h
  refine ⟨a, _, rfl, Evl.sq_of h1, fun p hp => q p _ (Evl.Ex.new hp) ⟨ts.reverse, ?_, by rw [List.length_reverse]; exact h2, fun t ht => h3 t (List.mem_reverse.mp ht)⟩⟩
  rw [upd_same]
  simp [sv]
end
theorem sc_law_drawn_list : FnScope ["_law_state", "_law_turn", "_law_kinds", "_law_good", "_law_size", "_law_drawn", "_law_k", "_law_at", "_law_menu"] ["_law_state", "_law_turn", "_law_kinds", "_law_good", "_law_size"] (defScope s_law_drawn_list) := ⟨rfl, rfl, rfl, by decide +kernel, rfl, by decide +kernel, by decide +kernel⟩
theorem b_law_drawn_list {K : Frag} {mg : Str → Option Value} (c : Wd K mg) : Binds K (fdOf K (gA K "_law_drawn_list")) ["_law_state", "_law_turn", "_law_kinds", "_law_good", "_law_size"] [] := c.f_law_drawn_list.binds (fun _ _ _ _ _ _ us hl => match us, hl with | [_, _, _, _, _], _ => rfl)
theorem ok_law_drawn_list {P : Program} {w : World} {K : Frag} {mg : Str → Option Value} {base : Heap} (c : Wd K mg) : FnOk P w K mg base (L2.CX P w) 3 (gA K "_law_drawn_list") (fdOf K (gA K "_law_drawn_list")) ["_law_state", "_law_turn", "_law_kinds", "_law_good", "_law_size"] (sp_law_drawn_list K) := by
  refine c.f_law_drawn_list.okX sc_law_drawn_list (fun vs H Q E h => ?_) (fun cdv A outer s H vs Q E hr h => ⟨_, PSs.nox (pss_cons (ps_set (i := 5) sc_law_drawn_list.nd rfl (Or.inl rfl) pe_str)
      (pss_cons (ps_for PassesOwn.never rfl (pi_range1 rfl c.z_range (pa_cons (pv 4) pa_nil)) (pg_name (i := 6) sc_law_drawn_list.nd rfl (Or.inl rfl)) (pss_one (ps_set (i := 5) sc_law_drawn_list.nd rfl (Or.inl rfl) (pe_op op_addS (pv 5) (pe_ix ix_str pe_str (pe_call (ok_law_draw c) (hr.mono (by decide)) rfl c.g_law_draw c.f_law_draw.kp (b_law_draw c) .nil passL (pa_cons (pv 0) (pa_cons (pe_op op_add pe_int (pe_lenLets rfl (by rfl) c.z_len (by rfl) c.z_set (pv 5))) pa_nil))) (fun _ _ => rfl))))))
      (pss_cons (ps_set (i := 7) sc_law_drawn_list.nd rfl (Or.inl rfl) (pe_call (ok_law_draw c) (hr.mono (by decide)) rfl c.g_law_draw c.f_law_draw.kp (b_law_draw c) .nil passL (pa_cons (pv 0) (pa_cons (pe_callB call_lenV (by rfl) c.z_len (by decide +kernel) (pa_cons (pv 2) pa_nil)) pa_nil))))
      (pss_cons (ps_set (i := 8) sc_law_drawn_list.nd rfl (Or.inl rfl) (pe_lst (pa_cons (pe_callTy call_listV (by rfl) c.z_list (by decide +kernel) (pa_cons (pv 2) pa_nil)) (pa_cons (pv 3) (pa_cons (pe_op op_cat (pe_slice sl_list (pv 2) po_none (po_some (pv 7))) (pe_slice sl_list (pv 2) (po_some (pe_op op_add (pv 7) pe_int)) po_none)) (pa_cons (pe_slice sl_list (pv 2) (po_some pe_int) po_none) pa_nil))))))
      (pss_cons (ps_set (i := 8) sc_law_drawn_list.nd rfl (Or.inl rfl) (pe_op op_cat (pv 8) (pe_lst (pa_cons (pe_op op_cat (pv 2) (pe_lst (pa_cons (pv 5) pa_nil))) (pa_cons (pe_revL (pv 2)) pa_nil)))))
      (pss_one (ps_ret (pe_ix ix_list (pv 8) (pe_op op_mod (pe_callTy call_int1 (by rfl) c.z_int (by decide +kernel) (pa_cons (pe_op op_add (pe_call (ok_law_draw c) (hr.mono (by decide)) rfl c.g_law_draw c.f_law_draw.kp (b_law_draw c) .nil passL (pa_cons (pv 0) (pa_cons pe_int pa_nil))) (pv 1)) pa_nil)) pe_int) (fun _ _ => rfl))))))))), ?_⟩)
  · obtain ⟨st, ce, a, b, turn, n, ks, gs, rfl, hst, ha, hb, hk1, hk2, hg2, hn, hks, hgs, hQ⟩ := h
    rfl
  obtain ⟨st, ce, a, b, turn, n, ks, gs, rfl, hst, ha, hb, hk1, hk2, hg2, hn, hks, hgs, hQ⟩ := h
  walk_at "wp"
  walk_at "om"
  rw [Int.toNat_natCast]
  refine lp_rng (fun i σ' H' => ∃ x, ∃ t : List Nat, σ' = [some (.ref st), some (.int turn), some (.ref a), some (.ref b), some (.int n), some (.str (tx t)), x, none, none] ∧ ExD H H' ∧ StAt H' st ce ∧ t ∈ allT i)
    ⟨_, [97], rfl, .refl _, hst, t0_in⟩ ?_ ?_
  · rintro i σ' H' hi ⟨x, t, rfl, hx, hs, ht⟩
    have hlen := (allT_mem ht).2
    have hll := letsLen (t := t)
    walk_at "wp"
    refine ⟨by omega, st, ce, 1 + (lets t).length, rfl, hs, by omega, by omega, fun v H1 hv hx1 hs1 => ?_⟩
    obtain ⟨d1, d2⟩ := dr_ok (by omega) ht hv
    refine ix_abc v rfl d2 ?_
    walk_at "wp"
    exact ⟨szI (by omega), hx.trans hx1, hs1, d1⟩
  · rintro σ' H1 ⟨x, t, rfl, hx1, hs1, ht⟩
    have ha1 := hx1 _ _ ha isSt_sv
    have hb1 := hx1 _ _ hb isSt_sv
    walk_at "wp"
    refine len_l (Evl.sq_of ha1) rfl ?_
    refine ⟨st, ce, ks.length, by rw [sv_len], hs1, by omega, by omega, fun at_ H2 hat hx2 hs2 => ?_⟩
    have ha2 := hx2 _ _ ha1 isSt_sv
    have hb2 := hx2 _ _ hb1 isSt_sv
    walk_at "wp"
    have k2 : LsOk n 100 H2 a := ⟨ks, ha2, hk2, hks⟩
    have g2 : LsOk n 100 H2 b := ⟨gs, hb2, hg2, hgs⟩
    refine list_ls k2 fun l1 H3 hx3 h1 => ?_
    walk_at "wp"
    refine sl_ls (k2.mono hx3) fun s1 H4 hx4 h2 => ?_
    have e4 := hx3.trans hx4
    walk_at "wp"
    refine sl_ls (k2.mono e4) fun s2 H5 hx5 h3 => ?_
    refine cat_ls (h2.mono hx5) h3 (by omega) fun l3 H6 hx6 h4 => ?_
    have e6 := e4.trans (hx5.trans hx6)
    walk_at "wp"
    refine sl_ls (k2.mono e6) fun l4 H7 hx7 h5 => ?_
    have e7 := e6.trans hx7
    refine ⟨szI (by show 4 ≤ 100000; omega), fun m1 hm1 => ?_⟩
    have hx8 := Evl.Ex.new (o := .lst [.ref l1, .ref b, .ref l3, .ref l4]) hm1
    have p1 : upd H7 m1 (.lst [.ref l1, .ref b, .ref l3, .ref l4]) m1 = _ := upd_same
    revert hx8 p1
    generalize upd H7 m1 (.lst [.ref l1, .ref b, .ref l3, .ref l4]) = H8
    intro hx8 p1
    have e8 := e7.trans hx8
    walk_at "wp"
    refine ⟨szI (by show 1 ≤ 100000; omega), fun d1 hd1 => ?_⟩
    have hx9 := Evl.Ex.new (o := .lst [.str (tx t)]) hd1
    have hd : LsOk n 1 (upd H8 d1 (.lst [.str (tx t)])) d1 := ⟨[t], upd_same, Nat.le_refl _, fun u hu => by rw [List.mem_singleton] at hu; rw [hu]; exact ht⟩
    refine cat_ls (k2.mono (e8.trans hx9)) hd (by omega) fun l5 H10 hx10 h6 => ?_
    have e10 := e8.trans (hx9.trans hx10)
    walk_at "wp"
    refine rev_ls (k2.mono e10) fun l6 H11 hx11 h7 => ?_
    have e11 := e10.trans hx11
    refine ⟨szI (by show 2 ≤ 100000; omega), fun m2 hm2 => ?_⟩
    have hx12 := Evl.Ex.new (o := .lst [.ref l5, .ref l6]) hm2
    refine ⟨m1, m2, _, _, rfl, rfl, hx12 _ _ ((hx9.trans (hx10.trans hx11)) _ _ p1), upd_same, szI (by show 6 ≤ 100000; omega), fun m3 hm3 => ?_⟩
    have hx13 := hx12.trans (Evl.Ex.new (o := .lst ([.ref l1, .ref b, .ref l3, .ref l4] ++ [.ref l5, .ref l6])) hm3)
    have p3 : upd (upd H11 m2 (.lst [.ref l5, .ref l6])) m3 (.lst ([.ref l1, .ref b, .ref l3, .ref l4] ++ [.ref l5, .ref l6])) m3 = _ := upd_same
    revert hx13 p3
    generalize upd (upd H11 m2 (.lst [.ref l5, .ref l6])) m3 (.lst ([.ref l1, .ref b, .ref l3, .ref l4] ++ [.ref l5, .ref l6])) = H13
    intro hx13 p3
    have e13 := e11.trans hx13
    walk_at "wp"
    refine ⟨st, ce, 6, rfl, hs2.mono e13, by omega, by omega, fun v H14 hv hx14 hs14 => ?_⟩
    have p4 := hx14 _ _ p3 (isSt_refs (as := [l1, b, l3, l4, l5, l6]))
    walk_at "wp"
    have hm6 : ((v : Int) + turn) % 6 = (((v + turn) % 6 : Nat) : Int) := mod_nat v turn 6
    rw [hm6]
    have hm7 : (v + turn) % 6 < 6 := Nat.mod_lt _ (by omega)
    revert hm7
    generalize (v + turn) % 6 = j
    intro hm7
    refine ⟨by omega, ?_⟩
    have hall : ∀ x ∈ [l1, b, l3, l4, l5, l6], LsOk n 200 H13 x := by
      have up : ∀ {q m H}, LsOk n m H q → m ≤ 200 → LsOk n 200 H q := fun ⟨ts, a1, a2, a3⟩ h => ⟨ts, a1, by omega, a3⟩
      intro x hx
      simp only [List.mem_cons, List.not_mem_nil, or_false] at hx
      rcases hx with rfl | rfl | rfl | rfl | rfl | rfl
      · exact up (h1.mono ((hx4.trans (hx5.trans hx6)).trans ((hx7.trans hx8).trans ((hx9.trans hx10).trans (hx11.trans hx13))))) (by omega)
      · exact up (g2.mono e13) (by omega)
      · exact up (h4.mono ((hx7.trans hx8).trans ((hx9.trans hx10).trans (hx11.trans hx13)))) (by omega)
      · exact up (h5.mono (hx8.trans ((hx9.trans hx10).trans (hx11.trans hx13)))) (by omega)
      · exact up (h6.mono (hx11.trans hx13)) (by omega)
      · exact up (h7.mono hx13) (by omega)
    have hj : j < [l1, b, l3, l4, l5, l6].length := hm7
    have hg : ([l1, b, l3, l4, l5, l6].map V.ref)[j]? = some (.ref [l1, b, l3, l4, l5, l6][j]) := by rw [List.getElem?_map, List.getElem?_eq_getElem hj]; rfl
    obtain ⟨ts, q1, q2, q3⟩ := hall _ (List.getElem_mem hj)
    refine ixL_v j (Evl.sq_of p4) rfl hg ?_
    exact hQ _ ts _ (((hx1.trans hx2).then e13).trans hx14) hs14 (hx14 _ _ q1 isSt_sv) q2 q3
end DR

set_option Elab.async false
set_option linter.all false
set_option maxRecDepth 100000
set_option maxHeartbeats 4000000
namespace DR
open PySem PySem.Spec PyProof.Rows L2
open PySem.W (Frag)
local macro_rules
  | `(tactic| walk_at "wp") => `(tactic| try simp only [L2.start, List.map_cons, List.map_nil, List.length_cons, List.length_nil, List.replicate, Nat.reduceAdd, Nat.reduceSub, List.cons_append, List.nil_append, List.append_nil, List.set_cons_succ, List.set_cons_zero,
      List.getElem?_cons_succ, List.getElem?_cons_zero, ap_K1, ap_K2, ap_seq, ap_next, ap_asg, ap_name, ap_ret, ap_retN, ap_drop, ap_ifS, ap_c, ap_var, ap_op, ap_un, ap_chain, ap_test, ap_B, ap_and, ap_or, ap_not, ap_yes, ap_notV, ap_if, ap_nil, ap_cons, ap_cb, ap_lst, ap_tup, ap_bm, ap_bm0, ap_m1, ap_call, ap_sl, ap_part, ap_nopart, ap_rI0, ap_rI, ap_rU, ap_eqI, ap_neI, ap_eqS, ap_neS, ap_eqB, ap_neB, ap_fld, ap_tup_, ap_gcons, ap_gnil, ap_gsub, ap_for, ap_lc, ap_rng1, ap_rng2, ap_list, ap_itup, ap_str, ap_enum, ap_zip, ap_inSg, ap_ninSg, ap_addS, ap_sfld, ap_meth, ap_prop, ap_make, ap_smeth, ap_never, ap_ost, ap_callS, ap_mko, ap_enumS, ap_zipS, ap_rng3, ap_listRg, ap_dnin, ap_din, ap_dput, ap_gfld, ap_kinds, ap_callO, ap_notN, ap_dc, ap_lenLets, ap_lst_, decide_true, decide_false, Bool.not_true, Bool.not_false,  ap_leS, lit_alpha, tg1, tg2, tg3, tg4, tg5, tg6, eq_self, ap_revL,  ap_rg1, ap_cval, len_abcdef, exists_and_left, exists_and_right, exists_eq_left', and_assoc, exists_eq_left, exists_eq, exists_eq', Option.some.injEq, V.int.injEq, V.str.injEq, V.ref.injEq, V.bl.injEq, V.ty.injEq, List.cons.injEq, and_true, true_and, decide_eq_true_eq, Bool.not_eq_true', decide_eq_false_iff_not, Bool.false_eq_true, if_true, if_false, reduceCtorEq, false_and, and_false, or_false, false_or, or_true, true_or, not_true_eq_false, not_false_eq_true, Int.zero_add, lit_nil, lit_a, tx_len, one_tx, tx_app, tx_inj, exists_const, forall_const])
  | `(tactic| walk_at "om") => `(tactic| repeat (refine ⟨by first | omega | exact szI, ?_⟩))

def refV (C : Str) (fs : List (Str × Int)) : List V := .str C :: fs.reverse.map fun f => .int f.2
theorem refusal_cases {ws : List (List Nat)} {sg : List Nat} {b e : Int} {t : Tr} {C : Str} {fs : List (Str × Int)} (h : refusal ws sg b e t = some (C, fs)) :
    (∃ i : Int, C = "BadSigns" ∧ fs = ([("index", i)] : List (Str × Int))) ∨ (∃ i j : Int, C = "BadStretch" ∧ fs = ([("end", j), ("begin", i)] : List (Str × Int))) ∨ (∃ i : Int, C = "TooLong" ∧ fs = ([("length", i)] : List (Str × Int))) ∨ (∃ i j : Int, C = "OutOfWindow" ∧ fs = ([("end", j), ("begin", i)] : List (Str × Int))) := by
  unfold refusal at h
  split at h
  · cases h
    exact .inl ⟨_, rfl, rfl⟩
  · split at h
    · cases h
      exact .inr (.inl ⟨_, _, rfl, rfl⟩)
    · split at h
      · cases h
        exact .inr (.inr (.inl ⟨_, rfl, rfl⟩))
      · split at h
        · cases h
          exact .inr (.inr (.inr ⟨_, _, rfl, rfl⟩))
        · cases h
def sp_law_refused (K : Frag) : Sp := fun vs H Q _ => ∃ (a : Addr) (ws : List (List Nat)) (sg : List Nat) (b e : Int) (s : Addr) (t : Tr) (C : Str) (fs : List (Str × Int)), vs = [.ref a, .str (tx sg), .int b, .int e, .ref s] ∧ CalAt K H a ws ∧ SayAt K H s t ∧ (ws.map List.length).sum ≤ 1000 ∧ sg.length ≤ 1000 ∧ t.size ≤ 1000 ∧ PlLe t ∧
  refusal ws sg b e t = some (C, fs) ∧ ∀ p H', Ex H H' → H' p = some (.lst (refV C fs)) → Q (.ref p) H'
theorem isX_ok {K : Frag} {mg : Str → Option Value} {cn dn : Str} {dd a : Addr} {fs : List (Str × V)} {k : Bool} {H : Hp} {Q : VK} (c : Wd K mg) (hx : XfC K (gA K cn)) (h1 : tyB cn K = true) (h : H dd = some (.xd fs)) (e : PySem.W.kitOne K (.ref (gA K cn)) (.ref (gA K dn)) = some k) (q : Q (.bl k) H) :
    rIsX K (.ref (gA K cn)) (some dd) a [.ref a, .ref (gA K dn)] H Q := ⟨_, _, dd, fs, k, rfl, rfl, exK_of hx h1 (c.ok2 10 rfl), rfl, h, e, q⟩
theorem sc_law_refused : FnScope ["_law_calendar", "_law_signs", "_law_low", "_law_high", "_law_saying_here", "e"] ["_law_calendar", "_law_signs", "_law_low", "_law_high", "_law_saying_here"] (defScope s_law_refused) := ⟨rfl, rfl, rfl, by decide +kernel, rfl, by decide +kernel, by decide +kernel⟩
theorem b_law_refused {K : Frag} {mg : Str → Option Value} (c : Wd K mg) : Binds K (fdOf K (gA K "_law_refused")) ["_law_calendar", "_law_signs", "_law_low", "_law_high", "_law_saying_here"] [] := c.f_law_refused.binds (fun _ _ _ _ _ _ us hl => match us, hl with | [_, _, _, _, _], _ => rfl)
theorem ok_law_refused {P : Program} {w : World} {K : Frag} {mg : Str → Option Value} {base : Heap} (c : Wd K mg) : FnOk P w K mg base (L2.CX P w) 10 (gA K "_law_refused") (fdOf K (gA K "_law_refused")) ["_law_calendar", "_law_signs", "_law_low", "_law_high", "_law_saying_here"] (sp_law_refused K) := by
  refine c.f_law_refused.okX sc_law_refused (fun vs H Q E h => ?_) (fun cdv A outer s H vs Q E hr h => ⟨_, (pss_cons (ps_try_as rfl rfl sc_law_refused.nd (i := 5) rfl rfl ⟨rfl, by decide, Or.inl c.g_RollError⟩ (takes_of rfl rfl rfl rfl) (fun W pn xe tk hp => (pss_one (ps_expr (pe_callS (ok_decide c) (hr.mono (by decide)) rfl c.g_decide c.f_decide.kp (b_decide c) (fun σ => passAt tk σ) (pa_cons (pv 0) (pa_cons (pv 1) (pa_cons (pv 2) (pa_cons (pv 3) (pa_cons (pv 4) pa_nil))))))))) (fun ea oe cls ed pn hz hd => (pss_cons (ps_if (pt_val (pe_callB (call_isX hz hd) (by rfl) c.z_isinstance (by decide +kernel) (pa_cons (pv 5) (pa_cons (pe_cls rfl c.g_OutOfWindow) pa_nil)))) (pss_one (ps_ret (pe_lst (pa_cons pe_str (pa_cons (pe_xf c.oxf_OutOfWindow c.on_OutOfWindow_begin hz hd (pv 5)) (pa_cons (pe_xf c.oxf_OutOfWindow c.on_OutOfWindow_end hz hd (pv 5)) pa_nil)))))) pss_nil)
      (pss_cons (ps_if (pt_val (pe_callB (call_isX hz hd) (by rfl) c.z_isinstance (by decide +kernel) (pa_cons (pv 5) (pa_cons (pe_cls rfl c.g_BadSigns) pa_nil)))) (pss_one (ps_ret (pe_lst (pa_cons pe_str (pa_cons (pe_xf c.oxf_BadSigns c.on_BadSigns_index hz hd (pv 5)) pa_nil))))) pss_nil)
      (pss_cons (ps_if (pt_val (pe_callB (call_isX hz hd) (by rfl) c.z_isinstance (by decide +kernel) (pa_cons (pv 5) (pa_cons (pe_cls rfl c.g_TooLong) pa_nil)))) (pss_one (ps_ret (pe_lst (pa_cons pe_str (pa_cons (pe_xf c.oxf_TooLong c.on_TooLong_length hz hd (pv 5)) pa_nil))))) pss_nil)
      (pss_one (ps_if (pt_val (pe_callB (call_isX hz hd) (by rfl) c.z_isinstance (by decide +kernel) (pa_cons (pv 5) (pa_cons (pe_cls rfl c.g_BadStretch) pa_nil)))) (pss_one (ps_ret (pe_lst (pa_cons pe_str (pa_cons (pe_xf c.oxf_BadStretch c.on_BadStretch_begin hz hd (pv 5)) (pa_cons (pe_xf c.oxf_BadStretch c.on_BadStretch_end hz hd (pv 5)) pa_nil)))))) pss_nil)))))))
      (pss_one (ps_ret (pe_lst (pa_cons pe_str pa_nil))))), ?_⟩)
  · obtain ⟨a, ws, sg, b, e, s', t, C, fs, rfl, ha, hs, hsum, hsl, hts, hle, href, hQ⟩ := h
    rfl
  obtain ⟨a, ws, sg, b, e, s', t, C, fs, rfl, ha, hs, hsum, hsl, hts, hle, href, hQ⟩ := h
  walk_at "wp"
  refine ⟨a, ws, sg, b, e, s', t, ⟨rfl, ha, hs, hsum, hsl, hts, hle, fun C' fs' h => ?_⟩, fun h => by rw [href] at h; cases h⟩
  rw [href] at h
  cases h
  intro d H1 hd hx1 hv
  rcases refusal_cases href with ⟨i, rfl, rfl⟩ | ⟨i, j, rfl, rfl⟩ | ⟨i, rfl, rfl⟩ | ⟨i, j, rfl, rfl⟩
  · refine ⟨true, c.oe_BadSigns, fun _ ea hea => ?_, fun q => nomatch q⟩
    walk_at "wp"
    refine isX_ok c c.oxf_BadSigns c.ty_BadSigns hv c.is_BadSigns_OutOfWindow ?_
    walk_at "wp"
    refine isX_ok c c.oxf_BadSigns c.ty_BadSigns hv c.is_BadSigns_BadSigns ?_
    walk_at "wp"
    refine ⟨_, rfl, rfl, rfl, d, _, _, rfl, hv, by rfl, szI (by omega), fun p hp => hQ p _ (hx1.trans (Evl.Ex.new hp)) upd_same⟩
  · refine ⟨true, c.oe_BadStretch, fun _ ea hea => ?_, fun q => nomatch q⟩
    walk_at "wp"
    refine isX_ok c c.oxf_BadStretch c.ty_BadStretch hv c.is_BadStretch_OutOfWindow ?_
    walk_at "wp"
    refine isX_ok c c.oxf_BadStretch c.ty_BadStretch hv c.is_BadStretch_BadSigns ?_
    walk_at "wp"
    refine isX_ok c c.oxf_BadStretch c.ty_BadStretch hv c.is_BadStretch_TooLong ?_
    walk_at "wp"
    refine isX_ok c c.oxf_BadStretch c.ty_BadStretch hv c.is_BadStretch_BadStretch ?_
    walk_at "wp"
    refine ⟨_, rfl, rfl, rfl, d, _, _, rfl, hv, by rfl, ⟨_, rfl, rfl, rfl, d, _, _, rfl, hv, by rfl, szI (by omega), fun p hp => hQ p _ (hx1.trans (Evl.Ex.new hp)) upd_same⟩⟩
  · refine ⟨true, c.oe_TooLong, fun _ ea hea => ?_, fun q => nomatch q⟩
    walk_at "wp"
    refine isX_ok c c.oxf_TooLong c.ty_TooLong hv c.is_TooLong_OutOfWindow ?_
    walk_at "wp"
    refine isX_ok c c.oxf_TooLong c.ty_TooLong hv c.is_TooLong_BadSigns ?_
    walk_at "wp"
    refine isX_ok c c.oxf_TooLong c.ty_TooLong hv c.is_TooLong_TooLong ?_
    walk_at "wp"
    refine ⟨_, rfl, rfl, rfl, d, _, _, rfl, hv, by rfl, szI (by omega), fun p hp => hQ p _ (hx1.trans (Evl.Ex.new hp)) upd_same⟩
  · refine ⟨true, c.oe_OutOfWindow, fun _ ea hea => ?_, fun q => nomatch q⟩
    walk_at "wp"
    refine isX_ok c c.oxf_OutOfWindow c.ty_OutOfWindow hv c.is_OutOfWindow_OutOfWindow ?_
    walk_at "wp"
    refine ⟨_, rfl, rfl, rfl, d, _, _, rfl, hv, by rfl, ⟨_, rfl, rfl, rfl, d, _, _, rfl, hv, by rfl, szI (by omega), fun p hp => hQ p _ (hx1.trans (Evl.Ex.new hp)) upd_same⟩⟩
end DR

set_option Elab.async false
set_option linter.all false
set_option maxRecDepth 100000
set_option maxHeartbeats 4000000
namespace DR
open PySem PySem.Spec PyProof.Rows L2
open PySem.W (Frag)
local macro_rules
  | `(tactic| walk_at "wp") => `(tactic| try simp only [L2.start, List.map_cons, List.map_nil, List.length_cons, List.length_nil, List.replicate, Nat.reduceAdd, Nat.reduceSub, List.cons_append, List.nil_append, List.append_nil, List.set_cons_succ, List.set_cons_zero,
      List.getElem?_cons_succ, List.getElem?_cons_zero, ap_K1, ap_K2, ap_seq, ap_next, ap_asg, ap_name, ap_ret, ap_retN, ap_drop, ap_ifS, ap_c, ap_var, ap_op, ap_un, ap_chain, ap_test, ap_B, ap_and, ap_or, ap_not, ap_yes, ap_notV, ap_if, ap_nil, ap_cons, ap_cb, ap_lst, ap_tup, ap_bm, ap_bm0, ap_m1, ap_call, ap_sl, ap_part, ap_nopart, ap_rI0, ap_rI, ap_rU, ap_eqI, ap_neI, ap_eqS, ap_neS, ap_eqB, ap_neB, ap_fld, ap_tup_, ap_gcons, ap_gnil, ap_gsub, ap_for, ap_lc, ap_rng1, ap_rng2, ap_list, ap_itup, ap_str, ap_enum, ap_zip, ap_inSg, ap_ninSg, ap_addS, ap_sfld, ap_meth, ap_prop, ap_make, ap_smeth, ap_never, ap_ost, ap_callS, ap_mko, ap_enumS, ap_zipS, ap_rng3, ap_listRg, ap_dnin, ap_din, ap_dput, ap_gfld, ap_kinds, ap_callO, ap_notN, ap_dc, ap_lenLets, ap_lst_, decide_true, decide_false, Bool.not_true, Bool.not_false,  ap_leS, lit_alpha, tg1, tg2, tg3, tg4, tg5, tg6, eq_self, ap_revL,  ap_rg1, ap_cval, len_abcdef, exists_and_left, exists_and_right, exists_eq_left', and_assoc, exists_eq_left, exists_eq, exists_eq', Option.some.injEq, V.int.injEq, V.str.injEq, V.ref.injEq, V.bl.injEq, V.ty.injEq, List.cons.injEq, and_true, true_and, decide_eq_true_eq, Bool.not_eq_true', decide_eq_false_iff_not, Bool.false_eq_true, if_true, if_false, reduceCtorEq, false_and, and_false, or_false, false_or, or_true, true_or, not_true_eq_false, not_false_eq_true, Int.zero_add, lit_nil, lit_a, tx_len, one_tx, tx_app, tx_inj, exists_const, forall_const])
  | `(tactic| walk_at "om") => `(tactic| repeat (refine ⟨by first | omega | exact szI, ?_⟩))

/-! comparing written lists -/
def dOf : V → PyData
  | .int i => .int i
  | .str x => .str x
  | .bl b => .bool b
  | _ => .none
def flatW : V → Bool
  | .int _ => true
  | .str x => x.cps.all (· < 0x110000)
  | .bl _ => true
  | _ => false
theorem dOf_flat {K : Frag} {H : Hp} : ∀ {v : V}, flatW v = true → Dp K H v (dOf v)
  | .int i, _ => .int i
  | .str x, _ => .str x
  | .bl b, _ => .bl b
theorem dOf_all {K : Frag} {H : Hp} : ∀ {vs : List V}, vs.all flatW = true → DpAll K H vs (vs.map dOf)
  | [], _ => .nil
  | v :: vs, h => by
    obtain ⟨h1, h2⟩ := He.ba (show (flatW v && vs.all flatW) = true from h)
    exact .cons (dOf_flat h1) (dOf_all h2)
theorem lay_all : ∀ {vs : List V}, vs.all flatW = true → PyData.canLayAll0 (vs.map dOf) = true ∧ PyData.depthAll (vs.map dOf) ≤ 1
  | [], _ => ⟨rfl, Nat.zero_le _⟩
  | v :: vs, h => by
    obtain ⟨h1, h2⟩ := He.ba (show (flatW v && vs.all flatW) = true from h)
    obtain ⟨h3, h4⟩ := lay_all h2
    have h5 : PyData.canLay0 (dOf v) = true ∧ PyData.depth (dOf v) ≤ 1 := by
      cases v <;> first | exact ⟨h1, by simp [dOf, PyData.depth]⟩ | exact absurd h1 (by simp [flatW])
    constructor
    · show (PyData.canLay0 (dOf v) && PyData.canLayAll0 (vs.map dOf)) = true
      rw [h5.1, h3]
      rfl
    · simp only [List.map_cons, PyData.depthAll]
      omega
theorem shaped_flat {vs : List V} (h : vs.all flatW = true) : SeqAt.shaped (.list (vs.map dOf)) = true := by
  obtain ⟨h1, h2⟩ := lay_all h
  unfold SeqAt.shaped
  rw [Bool.and_eq_true, decide_eq_true_eq]
  refine ⟨h1, ?_⟩
  simp only [PyData.depth]
  omega
section
variable {K : Frag} {H : Hp} {Q : VK} {a b : Addr} {vs ws : List V}
theorem ne_same (ha : H a = some (.lst vs)) (hb : H b = some (.lst vs)) (h : vs.all flatW = true) (q : Q (.bl false) H) : rNeD K (.ref a) (.ref b) H Q := by
  refine ⟨.list (vs.map dOf), .list (vs.map dOf), .lst (Evl.sq_of ha) (dOf_all h), .lst (Evl.sq_of hb) (dOf_all h), shaped_flat h, shaped_flat h, ?_⟩
  rw [SeqAt.eqv_refl _ (SeqAt.canLay_of_shaped (shaped_flat h))]
  exact q
theorem ne_nil (ha : H a = some (.lst vs)) (hb : H b = some (.lst [])) (h : vs.all flatW = true) (q : Q (.bl !vs.isEmpty) H) : rNeD K (.ref a) (.ref b) H Q := by
  refine ⟨.list (vs.map dOf), .list [], .lst (Evl.sq_of ha) (dOf_all h), .lst (Evl.sq_of hb) .nil, shaped_flat h, shaped_flat (vs := []) rfl, ?_⟩
  cases vs with
  | nil => exact q
  | cons v r => exact q
end
/-! the refusals that the law asks -/
theorem out_an {b e : Int} {t u : Tr} (h : outAt b e t = none) : outAt b e (.an t u) = outAt b e u := by
  unfold outAt at h ⊢
  have : prs (post (.an t u)) = prs (post t) ++ prs (post u) := by
    show prs (post t ++ post u ++ [.an t u]) = _
    unfold prs
    simp [isPl]
  rw [this, List.find?_append, h]
  rfl
theorem out_ro {b e : Int} {t u : Tr} {p : Int × Int} (h : outAt b e t = some p) : outAt b e (.ro t u) = some p := by
  unfold outAt at h ⊢
  have : prs (post (.ro t u)) = prs (post t) ++ prs (post u) := by
    show prs (post t ++ post u ++ [.ro t u]) = _
    unfold prs
    simp [isPl]
  rw [this, List.find?_append, h]
  rfl
theorem out_pl {b e x y k : Int} (h : x < b ∨ e < y) : outAt b e (.pl x y k) = some (x, y) := by
  show ([(x, y)] : List (Int × Int)).find? (outP b e) = _
  have : outP b e (x, y) = true := by
    unfold outP
    rcases h with h | h
    · simp [h]
    · simp [h]
  simp [this]
theorem out_no {b e : Int} {t : Tr} : outAt b e (.no t) = outAt b e t := by
  unfold outAt
  have : prs (post (.no t)) = prs (post t) := by
    show prs (post t ++ [.no t]) = _
    unfold prs
    simp [isPl]
  rw [this]
theorem bad_A {ws : List (List Nat)} {sg : List Nat} (h : badAt ws sg = none) : badAt ws (sg ++ [65]) = some sg.length := by
  unfold badAt at h ⊢
  rw [List.length_append, List.length_singleton, List.range_succ, List.find?_append]
  have h1 : (List.range sg.length).find? (badSg ws (sg ++ [65])) = none := by
    rw [List.find?_eq_none] at h ⊢
    intro i hi
    have hlt := List.mem_range.mp hi
    have h2 := h i hi
    have e1 : (sg ++ [65]).getD i 0 = sg.getD i 0 := by rw [List.getD_eq_getElem?_getD, List.getElem?_append_left hlt, ← List.getD_eq_getElem?_getD]
    have e2 : (sg ++ [65]).getD (i - 1) 0 = sg.getD (i - 1) 0 := by rw [List.getD_eq_getElem?_getD, List.getElem?_append_left (by omega), ← List.getD_eq_getElem?_getD]
    unfold badSg at h2 ⊢
    rw [e1, e2]
    exact h2
  have h2 : badSg ws (sg ++ [65]) sg.length = true := by
    refine badSg_t fun z => ?_
    have e1 : (sg ++ [65]).getD sg.length 0 = 65 := by simp
    rw [e1] at z
    unfold signsOf at z
    have := mem_alpha.mp (List.mem_filter.mp z.1).1
    omega
  rw [h1]
  simp [h2]
abbrev RowT := List Nat × Int × Tr × Str × List (Str × Int)
def RowR (K : Frag) (H : Hp) (x : RowT) (a : Addr) : Prop := ∃ s d, H a = some (.lst [.str (tx x.1), .int x.2.1, .ref s, .ref d]) ∧ SayAt K H s x.2.2.1 ∧ H d = some (.lst (refV x.2.2.2.1 x.2.2.2.2))
theorem RowR.mono {K : Frag} : Mono (RowR K) := fun H H' x a e ⟨s, d, h1, h2, h3⟩ => ⟨s, d, e _ _ h1, h2.mono e, e _ _ h3⟩
theorem SayAt.updL {K : Frag} {H : Hp} {a p : Addr} {t : Tr} {xs : List V} {o : HO} (h : SayAt K H a t) (hp : H p = some (.lst xs)) : SayAt K (upd H p o) a t := by
  obtain ⟨dx, x, h1, h2⟩ := h
  refine ⟨dx, x, ?_, TrAt.tups (fun b ys hb => ?_) h2⟩
  · rw [upd_ne]
    · exact h1
    · rintro rfl; rw [hp] at h1; cases h1
  · rw [upd_ne]
    · exact hb
    · rintro rfl; rw [hp] at hb; cases hb
theorem refs_ne {ps : List (RowT × Addr)} {s : Str} {r : List V} : HO.lst (ps.map fun q => V.ref q.2) ≠ .lst (.str s :: r) := by
  intro h
  simp only [HO.lst.injEq] at h
  cases ps <;> simp at h
theorem RowR.off {K : Frag} : Off (RowR K) := fun H p o x a ps hp ⟨s, d, h1, h2, h3⟩ => by
  refine ⟨s, d, ?_, h2.updL hp, ?_⟩
  · rw [upd_ne]
    · exact h1
    · rintro rfl; rw [hp] at h1; exact refs_ne (Option.some.inj h1)
  · rw [upd_ne]
    · exact h3
    · rintro rfl; rw [hp] at h3; exact refs_ne (Option.some.inj h3)
theorem row_push {K : Frag} {H5 H : Hp} {Q : VK} {tr r : Addr} {xs : List RowT} {x : RowT} (R : RA (RowR K) H tr xs) (h : RowR K H x r) (e : Ex H5 H) (ht : H5 tr = none) (hz : xs.length ≤ 100) (q : ∀ H', Ex H5 H' → RA (RowR K) H' tr (xs ++ [x]) → Q .non H') : rAppend (.ref tr) [.ref r] H Q := by
  obtain ⟨vs, w1, w2, w3⟩ := R.push RowR.off h
  exact app_ok w1 (by omega) (q _ (e.mut ht) w3)
theorem row_ty {K : Frag} {H : Hp} {tr : Addr} {xs : List RowT} (R : RA (RowR K) H tr xs) : tyV K "list" (.ref tr) H := by
  obtain ⟨vs, _, h, _⟩ := R.seq (K := K)
  exact tyL h
theorem row_at {K : Frag} {H : Hp} {s d p : Addr} (sg : List Nat) (e : Int) (t : Tr) (C : Str) (fs : List (Str × Int)) (hs : SayAt K H s t) (hd : H d = some (.lst (refV C fs))) (hp : H p = none) : ∃ H', H' = upd H p (.lst [.str (tx sg), .int e, .ref s, .ref d]) ∧ Ex H H' ∧ RowR K H' (sg, e, t, C, fs) p := by
  have e' := Evl.Ex.new (o := .lst [.str (tx sg), .int e, .ref s, .ref d]) hp
  exact ⟨_, rfl, e', s, d, upd_same, hs.mono e', e' _ _ hd⟩
/-- a row that is refused as it says -/
def RowOk (ws : List (List Nat)) (low : Int) (x : RowT) : Prop := x.1.length ≤ 20 ∧ PlLe x.2.2.1 ∧ x.2.2.1.size ≤ 1000 ∧ refusal ws x.1 low x.2.1 x.2.2.1 = some (x.2.2.2.1, x.2.2.2.2)
theorem flat_lits : flatW (.str "BadSigns") = true ∧ flatW (.str "BadStretch") = true ∧ flatW (.str "TooLong") = true ∧ flatW (.str "OutOfWindow") = true := by decide +kernel
theorem refV_flat {ws : List (List Nat)} {sg : List Nat} {b e : Int} {t : Tr} {C : Str} {fs : List (Str × Int)} (h : refusal ws sg b e t = some (C, fs)) : (refV C fs).all flatW = true := by
  obtain ⟨h1, h2, h3, h4⟩ := flat_lits
  rcases refusal_cases h with ⟨i, rfl, rfl⟩ | ⟨i, j, rfl, rfl⟩ | ⟨i, rfl, rfl⟩ | ⟨i, j, rfl, rfl⟩ <;> unfold refV <;> rw [List.all_cons] <;> simp only [h1, h2, h3, h4] <;> rfl
theorem ref_out {ws : List (List Nat)} {sg : List Nat} {b : Int} {n : Nat} {t : Tr} {x y : Int} (h : badAt ws sg = none) (hn : n ≤ 3) (ho : outAt b (b + n) t = some (x, y)) : refusal ws sg b (b + n) t = some (("OutOfWindow" : Str), ([("end", y), ("begin", x)] : List (Str × Int))) := by
  unfold refusal
  rw [h, ho]
  simp only [if_neg (show ¬ b + (n : Int) < b by omega), if_neg (show ¬ 5 < b + (n : Int) - b by omega)]
def sp_law_refusals (K : Frag) : Sp := fun vs H Q _ => ∃ (st ce a s : Addr) (ws : List (List Nat)) (sg : List Nat) (low : Int) (n : Nat) (t : Tr), vs = [.ref st, .ref a, .str (tx sg), .int low, .int (n : Nat), .ref s] ∧ StAt H st ce ∧ CalAt K H a ws ∧ SayAt K H s t ∧ (ws.map List.length).sum ≤ 1000 ∧ sg.length ≤ 10 ∧ n ≤ 3 ∧ badAt ws sg = none ∧ outAt low (low + n) t = none ∧ PlLe t ∧ t.size ≤ 500 ∧
  ∀ H', ExD H H' → StAt H' st ce → Q (.bl true) H'
theorem lit_A : (Str.ofString "A" : Str) = tx [65] := by decide +kernel
theorem plLe_an {t u : Tr} (h : PlLe t) (h' : PlLe u) : PlLe (.an t u) := by
  intro p hp
  have : prs (post (.an t u)) = prs (post t) ++ prs (post u) := by
    show prs (post t ++ post u ++ [.an t u]) = _
    unfold prs
    simp [isPl]
  rw [this] at hp
  exact (List.mem_append.mp hp).elim (h p) (h' p)
theorem plLe_ro {t u : Tr} (h : PlLe t) (h' : PlLe u) : PlLe (.ro t u) := by
  intro p hp
  have : prs (post (.ro t u)) = prs (post t) ++ prs (post u) := by
    show prs (post t ++ post u ++ [.ro t u]) = _
    unfold prs
    simp [isPl]
  rw [this] at hp
  exact (List.mem_append.mp hp).elim (h p) (h' p)
theorem plLe_no {t : Tr} (h : PlLe t) : PlLe (.no t) := by
  intro p hp
  have : prs (post (.no t)) = prs (post t) := by
    show prs (post t ++ [.no t]) = _
    unfold prs
    simp [isPl]
  rw [this] at hp
  exact h p hp
theorem plLe_pl {b e k : Int} (h : b ≤ e) : PlLe (.pl b e k) := by
  intro p hp
  have hp : p ∈ [(b, e)] := hp
  rw [List.mem_singleton] at hp
  rw [hp]
  exact h
theorem sc_law_refusals : FnScope ["_law_state", "_law_calendar", "_law_signs", "_law_low", "_law_size", "_law_saying_here", "_law_high", "_law_at", "_law_begin_here", "_law_end", "_law_far", "_law_due", "_law_tries", "_law_row"] ["_law_state", "_law_calendar", "_law_signs", "_law_low", "_law_size", "_law_saying_here"] (defScope s_law_refusals) := ⟨rfl, rfl, rfl, by decide +kernel, rfl, by decide +kernel, by decide +kernel⟩
theorem b_law_refusals {K : Frag} {mg : Str → Option Value} (c : Wd K mg) : Binds K (fdOf K (gA K "_law_refusals")) ["_law_state", "_law_calendar", "_law_signs", "_law_low", "_law_size", "_law_saying_here"] [] := c.f_law_refusals.binds (fun _ _ _ _ _ _ us hl => match us, hl with | [_, _, _, _, _, _], _ => rfl)
theorem ok_law_refusals {P : Program} {w : World} {K : Frag} {mg : Str → Option Value} {base : Heap} (c : Wd K mg) : FnOk P w K mg base (L2.CX P w) 11 (gA K "_law_refusals") (fdOf K (gA K "_law_refusals")) ["_law_state", "_law_calendar", "_law_signs", "_law_low", "_law_size", "_law_saying_here"] (sp_law_refusals K) := by
  refine c.f_law_refusals.okX sc_law_refusals (fun vs H Q E h => ?_) (fun cdv A outer s H vs Q E hr h => ⟨_, PSs.nox (pss_cons (ps_set (i := 6) sc_law_refusals.nd rfl (Or.inl rfl) (pe_op op_add (pv 3) (pv 4)))
      (pss_cons (ps_set (i := 7) sc_law_refusals.nd rfl (Or.inl rfl) (pe_call (ok_law_draw c) (hr.mono (by decide)) rfl c.g_law_draw c.f_law_draw.kp (b_law_draw c) .nil passL (pa_cons (pv 0) (pa_cons pe_int pa_nil))))
      (pss_cons (ps_set (i := 8) sc_law_refusals.nd rfl (Or.inl rfl) (pe_ix ix_list (pe_lst (pa_cons (pe_op op_sub (pv 3) pe_int) (pa_cons (pv 6) (pa_cons (pe_op op_sub (pv 3) pe_int) pa_nil)))) (pv 7) (fun _ _ => rfl)))
      (pss_cons (ps_set (i := 9) sc_law_refusals.nd rfl (Or.inl rfl) (pe_ix ix_list (pe_lst (pa_cons (pv 3) (pa_cons (pe_op op_add (pv 6) pe_int) (pa_cons (pe_op op_add (pv 6) pe_int) pa_nil)))) (pv 7) (fun _ _ => rfl)))
      (pss_cons (ps_set (i := 10) sc_law_refusals.nd rfl (Or.inl rfl) (pe_smeth (pe_cls rfl c.g_Saying) c.s_Saying_least (ok_Saying_least c) (hr.mono (by decide)) (b_Saying_least c) passL (pa_cons (pv 8) (pa_cons (pv 9) (pa_cons (pe_call (ok_law_draw c) (hr.mono (by decide)) rfl c.g_law_draw c.f_law_draw.kp (b_law_draw c) .nil passL (pa_cons (pv 0) (pa_cons pe_int pa_nil))) pa_nil)))))
      (pss_cons (ps_set (i := 11) sc_law_refusals.nd rfl (Or.inl rfl) (pe_lst (pa_cons pe_str (pa_cons (pv 8) (pa_cons (pv 9) pa_nil)))))
      (pss_cons (ps_set (i := 12) sc_law_refusals.nd rfl (Or.inl rfl) (pe_lst (pa_cons (pe_lst (pa_cons (pv 2) (pa_cons (pv 6) (pa_cons (pe_op (op_own2n (m := "__and__") (by decide +kernel) (ok_Saying_and c) (hr.mono (by decide)) (b_Saying_and c) passL c.sf_Saying c.m_Saying_and) (pv 5) (pv 10)) (pa_cons (pv 11) pa_nil))))) pa_nil)))
      (pss_cons (ps_expr (pe_bm PySem.F.plainAttrs_list PySem.F.slot_list_append PySem.F.type_list_append mt_append (pv 12) (pa_cons (pe_lst (pa_cons (pv 2) (pa_cons (pv 6) (pa_cons (pe_op (op_own2n (m := "__or__") (by decide +kernel) (ok_Saying_or c) (hr.mono (by decide)) (b_Saying_or c) passL c.sf_Saying c.m_Saying_or) (pe_un (un_ownInvM (ok_Saying_invert c) (hr.mono (by decide)) (b_Saying_invert c) passL c.m_Saying_invert) (pv 10)) (pv 5)) (pa_cons (pv 11) pa_nil))))) pa_nil)))
      (pss_cons (ps_expr (pe_bm PySem.F.plainAttrs_list PySem.F.slot_list_append PySem.F.type_list_append mt_append (pv 12) (pa_cons (pe_lst (pa_cons (pv 2) (pa_cons (pe_op op_add (pv 3) pe_int) (pa_cons (pv 10) (pa_cons (pe_lst (pa_cons pe_str (pa_cons pe_int pa_nil))) pa_nil))))) pa_nil)))
      (pss_cons (ps_expr (pe_bm PySem.F.plainAttrs_list PySem.F.slot_list_append PySem.F.type_list_append mt_append (pv 12) (pa_cons (pe_lst (pa_cons (pv 2) (pa_cons (pe_op op_sub (pv 3) pe_int) (pa_cons (pv 10) (pa_cons (pe_lst (pa_cons pe_str (pa_cons (pv 3) (pa_cons (pe_op op_sub (pv 3) pe_int) pa_nil)))) pa_nil))))) pa_nil)))
      (pss_cons (ps_expr (pe_bm PySem.F.plainAttrs_list PySem.F.slot_list_append PySem.F.type_list_append mt_append (pv 12) (pa_cons (pe_lst (pa_cons (pe_op op_addS (pv 2) pe_str) (pa_cons (pe_op op_sub (pv 3) pe_int) (pa_cons (pv 10) (pa_cons (pe_lst (pa_cons pe_str (pa_cons (pe_callB call_len_str (by rfl) c.z_len (by decide +kernel) (pa_cons (pv 2) pa_nil)) pa_nil))) pa_nil))))) pa_nil)))
      (pss_cons (ps_for PassesOwn.never rfl (pi_list (pv 12)) (pg_name (i := 13) sc_law_refusals.nd rfl (Or.inl rfl)) (pss_one (ps_if (pt_cmpR (op_neD (hu64 hr)) (pe_call (ok_law_refused c) (hr.mono (by decide)) rfl c.g_law_refused c.f_law_refused.kp (b_law_refused c) .nil passL (pa_cons (pv 1) (pa_cons (pe_ix ix_list (pv 13) pe_int (fun _ _ => rfl)) (pa_cons (pv 3) (pa_cons (pe_ix ix_list (pv 13) pe_int (fun _ _ => rfl)) (pa_cons (pe_ix ix_list (pv 13) pe_int (fun _ _ => rfl)) pa_nil)))))) (pe_ix ix_list (pv 13) pe_int (fun _ _ => rfl)) (nomark _)) (pss_one (ps_ret pe_bl)) pss_nil)))
      (pss_one (ps_ret pe_bl)))))))))))))), ?_⟩)
  · obtain ⟨st, ce, a, s', ws, sg, low, n, t, rfl, hst, ha, hs, hsum, hsl, hn, hbad, hin, hle, hts, hQ⟩ := h
    rfl
  obtain ⟨st, ce, a, s', ws, sg, low, n, t, rfl, hst, ha, hs, hsum, hsl, hn, hbad, hin, hle, hts, hQ⟩ := h
  walk_at "wp"
  refine ⟨st, ce, 3, rfl, hst, by omega, by omega, fun v H1 hv hx1 hs1 => ?_⟩
  walk_at "wp"
  obtain ⟨b', e', g1, g2, g3, g4⟩ : ∃ b' e' : Int, ([.int (low - 1), .int (low + n), .int (low - 1)] : List V)[v]? = some (.int b') ∧ ([.int low, .int (low + n + 1), .int (low + n + 1)] : List V)[v]? = some (.int e') ∧ b' ≤ e' ∧ (b' < low ∨ low + n < e') := by
    match v, hv with
    | 0, _ => exact ⟨low - 1, low, rfl, rfl, by omega, by omega⟩
    | 1, _ => exact ⟨low + n, low + n + 1, rfl, rfl, by omega, by omega⟩
    | 2, _ => exact ⟨low - 1, low + n + 1, rfl, rfl, by omega, by omega⟩
  refine ⟨szI, fun l1 hl1 => ?_⟩
  have hy1 := Evl.Ex.new (o := .lst [.int (low - 1), .int (low + n), .int (low - 1)]) hl1
  refine ixL_v v (Evl.sq_of upd_same) rfl g1 ?_
  walk_at "wp"
  refine ⟨szI, fun l2 hl2 => ?_⟩
  have hy2 := hy1.trans (Evl.Ex.new (o := .lst [.int low, .int (low + n + 1), .int (low + n + 1)]) hl2)
  refine ixL_v v (Evl.sq_of upd_same) rfl g2 ?_
  revert hy2
  generalize upd (upd H1 l1 (.lst [.int (low - 1), .int (low + n), .int (low - 1)])) l2 (.lst [.int low, .int (low + n + 1), .int (low + n + 1)]) = H2
  intro hy2
  walk_at "wp"
  refine ⟨st, ce, 3, rfl, hs1.mono hy2, by omega, by omega, fun v2 H3 hv2 hx3 hs3 => ?_⟩
  refine ⟨_, _, _, rfl, g3, fun far H4 hfar hx4 h4 => ?_⟩
  have hd4 : ExD H H4 := (((hx1.then hy2).trans hx3).then hx4)
  have hst4 := hs3.mono hx4
  have ha4 : CalAt K H4 a ws := ha.monoD hd4
  have hsay4 : SayAt K H4 s' t := hs.monoD hd4
  clear hx1 hs1 hy1 hl1 hl2 hy2 hx3 hs3 hx4 g1 g2 hfar
  walk_at "wp"
  refine ⟨szI (by show 3 ≤ 100000; omega), fun du hdu => ?_⟩
  have hz1 := Evl.Ex.new (o := .lst [.str "OutOfWindow", .int b', .int e']) hdu
  have hdu1 : upd H4 du (.lst [.str "OutOfWindow", .int b', .int e']) du = some (.lst (refV "OutOfWindow" [("end", e'), ("begin", b')])) := upd_same
  revert hz1 hdu1
  generalize upd H4 du (.lst [.str "OutOfWindow", .int b', .int e']) = H5
  intro hz1 hdu1
  walk_at "wp"
  have hsay5 := hsay4.mono hz1
  have h5 := SayAt.mono hz1 h4
  have hd5 := hd4.then hz1
  have hst5 := hst4.mono hz1
  have ha5 := ha4.mono hz1
  clear hd4 hst4 ha4 hsay4 h4 hz1 hdu
  have ro : ∀ {t : Tr}, outAt low (low + n) t = some (b', e') → refusal ws sg low (low + n) t = some (("OutOfWindow" : Str), ([("end", e'), ("begin", b')] : List (Str × Int))) := fun h => ref_out hbad hn h
  refine say2 .an hsay5 h5 fun s1 H6 hx6 h6 => ?_
  refine ⟨szI (by show 4 ≤ 100000; omega), fun r1 hr1 => ?_⟩
  obtain ⟨H7, hH, hx7, q1⟩ := row_at sg (low + n) (.an t (.pl b' e' v2)) "OutOfWindow" [("end", e'), ("begin", b')] h6 (hx6 _ _ hdu1) hr1
  rw [← hH]
  clear hH hr1
  have e7 := hx6.trans hx7
  refine ⟨szI (by show 1 ≤ 100000; omega), fun tr htr => ?_⟩
  have ht5 : H5 tr = none := Evl.fresh_back e7 htr
  have e8 := e7.trans (Evl.Ex.new (o := .lst [.ref r1]) htr)
  have R1 : RA (RowR K) (upd H7 tr (.lst [.ref r1])) tr [(sg, low + n, .an t (.pl b' e' v2), "OutOfWindow", [("end", e'), ("begin", b')])] :=
    ⟨[(_, r1)], rfl, upd_same, fun q hq => by rw [List.mem_singleton] at hq; subst hq; exact RowR.mono _ _ _ _ (Evl.Ex.new htr) q1⟩
  revert e8 R1
  generalize upd H7 tr (.lst [.ref r1]) = H8
  intro e8 R1
  clear hx6 h6 hx7 q1 e7 htr
  walk_at "wp"
  refine ⟨row_ty R1, ?_⟩
  refine say1 (h5.mono e8) fun s2 H9 hx9 h9 => ?_
  refine say2 .ro h9 (hsay5.mono (e8.trans hx9)) fun s3 H10 hx10 h10 => ?_
  have f10 := hx9.trans hx10
  refine ⟨szI (by show 4 ≤ 100000; omega), fun r2 hr2 => ?_⟩
  obtain ⟨H11, hH, hx11, q2⟩ := row_at sg (low + n) (.ro (.no (.pl b' e' v2)) t) "OutOfWindow" [("end", e'), ("begin", b')] h10 ((e8.trans f10) _ _ hdu1) hr2
  rw [← hH]
  clear hH hr2
  refine row_push (R1.mono RowR.mono (f10.trans hx11)) q2 (e8.trans (f10.trans hx11)) ht5 (by simp) fun H12 e12 R2 => ?_
  clear R1 e8 hx9 h9 hx10 h10 f10 hx11 q2
  walk_at "wp"
  refine ⟨row_ty R2, szI (by show 2 ≤ 100000; omega), fun d3 hd3 => ?_⟩
  have g3 := Evl.Ex.new (o := .lst [.str "TooLong", .int 6]) hd3
  refine ⟨szI (by show 4 ≤ 100000; omega), fun r3 hr3 => ?_⟩
  obtain ⟨H13, hH, hx13, q3⟩ := row_at sg (low + 6) (.pl b' e' v2) "TooLong" [("length", 6)] (h5.mono (e12.trans g3)) upd_same hr3
  rw [← hH]
  clear hH hr3
  refine row_push (R2.mono RowR.mono (g3.trans hx13)) q3 (e12.trans (g3.trans hx13)) ht5 (by simp) fun H14 e14 R3 => ?_
  clear R2 e12 g3 hx13 q3 hd3
  walk_at "wp"
  refine ⟨row_ty R3, szI (by show 3 ≤ 100000; omega), fun d4 hd4 => ?_⟩
  have g4' := Evl.Ex.new (o := .lst [.str "BadStretch", .int low, .int (low - 1)]) hd4
  refine ⟨szI (by show 4 ≤ 100000; omega), fun r4 hr4 => ?_⟩
  obtain ⟨H15, hH, hx15, q4⟩ := row_at sg (low - 1) (.pl b' e' v2) "BadStretch" [("end", low - 1), ("begin", low)] (h5.mono (e14.trans g4')) upd_same hr4
  rw [← hH]
  clear hH hr4
  refine row_push (R3.mono RowR.mono (g4'.trans hx15)) q4 (e14.trans (g4'.trans hx15)) ht5 (by simp) fun H16 e16 R4 => ?_
  clear R3 e14 g4' hx15 q4 hd4
  rw [lit_A]
  walk_at "wp"
  refine ⟨row_ty R4, szI (by omega), szI (by omega), szI (by show 2 ≤ 100000; omega), fun d5 hd5' => ?_⟩
  have g5' := Evl.Ex.new (o := .lst [.str "BadSigns", .int (sg.length : Int)]) hd5'
  refine ⟨szI (by show 4 ≤ 100000; omega), fun r5 hr5 => ?_⟩
  obtain ⟨H17, hH, hx17, q5⟩ := row_at (sg ++ [65]) (low - 1) (.pl b' e' v2) "BadSigns" [("index", (sg.length : Int))] (h5.mono (e16.trans g5')) upd_same hr5
  rw [← hH]
  clear hH hr5
  refine row_push (R4.mono RowR.mono (g5'.trans hx17)) q5 (e16.trans (g5'.trans hx17)) ht5 (by simp) fun H18 e18 R5 => ?_
  clear R4 e16 g5' hx17 q5 hd5'
  have rows0 : ∃ rws, RA (RowR K) H18 tr rws ∧ ∀ x ∈ rws, RowOk ws low x := by
    refine ⟨_, R5, fun x hx => ?_⟩
    simp only [List.mem_append, List.mem_singleton, List.cons_append, List.nil_append, List.mem_cons, List.not_mem_nil, or_false] at hx
    have hpl := plLe_pl (k := (v2 : Int)) g3
    have ho := out_pl (e := low + n) (k := (v2 : Int)) g4
    rcases hx with rfl | rfl | rfl | rfl | rfl
    · exact ⟨by simp only; omega, plLe_an hle hpl, by simp only [Tr.size]; omega, ro (by rw [out_an hin]; exact ho)⟩
    · exact ⟨by simp only; omega, plLe_ro (plLe_no hpl) hle, by simp only [Tr.size]; omega, ro (out_ro (by rw [out_no]; exact ho))⟩
    · refine ⟨by simp only; omega, hpl, by simp only [Tr.size]; omega, ?_⟩
      unfold refusal
      simp only [hbad, if_neg (show ¬ low + 6 < low by omega), show low + 6 - low = 6 by omega, Int.reduceLT, if_true]
    · refine ⟨by simp only; omega, hpl, by simp only [Tr.size]; omega, ?_⟩
      unfold refusal
      simp only [hbad, if_pos (show low - 1 < low by omega)]
    · refine ⟨by simp only [List.length_append, List.length_singleton]; omega, hpl, by simp only [Tr.size]; omega, ?_⟩
      unfold refusal
      simp only [bad_A hbad]
  clear R5
  obtain ⟨rws, R5, rows⟩ := rows0
  have ha18 := ha5.mono e18
  obtain ⟨vs, hv1, hv2, hv3, hv4⟩ := R5.seq (K := K)
  walk_at "wp"
  refine ⟨⟨_, hv1⟩, ?_⟩
  refine lp_list (fun i σ' H' => ∃ y, σ' = [some (.ref st), some (.ref a), some (.str (tx sg)), some (.int low), some (.int n), some (.ref s'), some (.int (low + n)), some (.int v), some (.int b'), some (.int e'), some (.ref far), some (.ref du), some (.ref tr), y] ∧ Ex H18 H') ⟨_, rfl, Evl.Ex.refl _⟩ (fun i σ' H' _ ⟨_, _, e⟩ => Evl.ex_l e hv1) ?_ ?_
  · rintro i u σ' H' hi hu ⟨y, rfl, hx⟩
    obtain ⟨x, r, x1, rfl, x2⟩ := hv4 i u hu
    obtain ⟨k1, k2, k3, k4⟩ := rows x (List.mem_of_getElem? x1)
    obtain ⟨s, d, w1, w2, w3⟩ := RowR.mono _ _ _ _ hx x2
    walk_at "wp"
    refine ixL_v 0 (Evl.sq_of w1) rfl rfl ?_
    refine ixL_v 1 (Evl.sq_of w1) rfl rfl ?_
    refine ixL_v 2 (Evl.sq_of w1) rfl rfl ?_
    refine ⟨a, ws, x.1, low, x.2.1, s, x.2.2.1, x.2.2.2.1, x.2.2.2.2, rfl, ha18.mono hx, w2, hsum, by omega, k3, k2, k4, fun p H2 hx2 hp => ?_⟩
    refine ixL_v 3 (Evl.sq_of (hx2 _ _ w1)) rfl rfl ?_
    refine ne_same hp (hx2 _ _ w3) (refV_flat k4) ?_
    walk_at "wp"
    exact hx.trans hx2
  · rintro σ' H' ⟨y, rfl, hx⟩
    walk_at "wp"
    exact hQ _ (hd5.then (e18.trans hx)) (hst5.mono (e18.trans hx))
end DR

set_option Elab.async false
set_option linter.all false
set_option maxRecDepth 100000
set_option maxHeartbeats 4000000
namespace DR
open PySem PySem.Spec PyProof.Rows L2
open PySem.W (Frag)
local macro_rules
  | `(tactic| walk_at "wp") => `(tactic| try simp only [L2.start, List.map_cons, List.map_nil, List.length_cons, List.length_nil, List.replicate, Nat.reduceAdd, Nat.reduceSub, List.cons_append, List.nil_append, List.append_nil, List.set_cons_succ, List.set_cons_zero,
      List.getElem?_cons_succ, List.getElem?_cons_zero, ap_K1, ap_K2, ap_seq, ap_next, ap_asg, ap_name, ap_ret, ap_retN, ap_drop, ap_ifS, ap_c, ap_var, ap_op, ap_un, ap_chain, ap_test, ap_B, ap_and, ap_or, ap_not, ap_yes, ap_notV, ap_if, ap_nil, ap_cons, ap_cb, ap_lst, ap_tup, ap_bm, ap_bm0, ap_m1, ap_call, ap_sl, ap_part, ap_nopart, ap_rI0, ap_rI, ap_rU, ap_eqI, ap_neI, ap_eqS, ap_neS, ap_eqB, ap_neB, ap_fld, ap_tup_, ap_gcons, ap_gnil, ap_gsub, ap_for, ap_lc, ap_rng1, ap_rng2, ap_list, ap_itup, ap_str, ap_enum, ap_zip, ap_inSg, ap_ninSg, ap_addS, ap_sfld, ap_meth, ap_prop, ap_make, ap_smeth, ap_never, ap_ost, ap_callS, ap_mko, ap_enumS, ap_zipS, ap_rng3, ap_listRg, ap_dnin, ap_din, ap_dput, ap_gfld, ap_kinds, ap_callO, ap_notN, ap_dc, ap_lenLets, ap_lst_, decide_true, decide_false, Bool.not_true, Bool.not_false,  ap_leS, lit_alpha, tg1, tg2, tg3, tg4, tg5, tg6, eq_self, ap_revL,  ap_rg1, ap_cval, len_abcdef, exists_and_left, exists_and_right, exists_eq_left', and_assoc, exists_eq_left, exists_eq, exists_eq', Option.some.injEq, V.int.injEq, V.str.injEq, V.ref.injEq, V.bl.injEq, V.ty.injEq, List.cons.injEq, and_true, true_and, decide_eq_true_eq, Bool.not_eq_true', decide_eq_false_iff_not, Bool.false_eq_true, if_true, if_false, reduceCtorEq, false_and, and_false, or_false, false_or, or_true, true_or, not_true_eq_false, not_false_eq_true, Int.zero_add, lit_nil, lit_a, tx_len, one_tx, tx_app, tx_inj, exists_const, forall_const])
  | `(tactic| walk_at "om") => `(tactic| repeat (refine ⟨by first | omega | exact szI, ?_⟩))

theorem PcAt.tyx {K : Frag} {mg : Str → Option Value} {H : Hp} {x a s : Addr} {sg p : List Nat} {b e : Int} (c : Wd K mg) (h : PcAt K H x a sg b e s p) : TyX K H (.ref x) (.ref (gA K "PageCertificate")) := by
  obtain ⟨dx, h1⟩ := h
  obtain ⟨t1, t2⟩ := He.ba c.ty_PageCertificate
  obtain ⟨t3, t4⟩ := He.ba (show tyG K = true from c.ok2 10 rfl)
  exact .base (.ins h1 c.c_PageCertificate (of_decide_eq_true t1) (of_decide_eq_true t3) (of_decide_eq_true t4) (of_decide_eq_true t2))
theorem LcAt.tyx {K : Frag} {mg : Str → Option Value} {H : Hp} {x a s : Addr} {sg : List Nat} {ks : List (List Nat)} {b e : Int} (c : Wd K mg) (h : LcAt K H x a sg b e s ks) : TyX K H (.ref x) (.ref (gA K "ListCertificate")) := by
  obtain ⟨dx, l, h1, _⟩ := h
  obtain ⟨t1, t2⟩ := He.ba c.ty_ListCertificate
  obtain ⟨t3, t4⟩ := He.ba (show tyG K = true from c.ok2 10 rfl)
  exact .base (.ins h1 c.c_ListCertificate (of_decide_eq_true t1) (of_decide_eq_true t3) (of_decide_eq_true t4) (of_decide_eq_true t2))
theorem isi_ok {K : Frag} {H : Hp} {Q : VK} {x : Addr} {C D : Addr} {k : Bool} (h : TyX K H (.ref x) (.ref C)) (e : PySem.W.kitOne K (.ref C) (.ref D) = some k) (q : Q (.bl k) H) : rIsi K [.ref x, .ref D] H Q := ⟨.ref x, .ref D, _, _, k, rfl, .own _, h, e, q⟩
theorem isb_ok {K : Frag} {H : Hp} {Q : VK} {b : Bool} (q : Q (.bl true) H) : rIsi K [.bl b, .ty "bool"] H Q := ⟨.bl b, .ty "bool", _, _, true, rfl, .ty _, .base (.bl b), if_pos (beq_self_eq_true _), q⟩
theorem iss_ok {K : Frag} {H : Hp} {Q : VK} {s : Str} (q : Q (.bl true) H) : rIsi K [.str s, .ty "str"] H Q := ⟨.str s, .ty "str", _, _, true, rfl, .ty _, .base (.str s), if_pos (beq_self_eq_true _), q⟩
theorem lit_broken : (Str.ofString "claim" ++ Str.ofString ": broken" : Str) = Str.ofString "claim: broken" := by decide +kernel
theorem lit_forall : (Str.ofString "claim" ++ Str.ofString ": for all" : Str) = Str.ofString "claim: for all" := by decide +kernel
structure QOk (K : Frag) (H : Hp) (a s : Addr) (ws : List (List Nat)) (sg : List Nat) (b : Int) (n : Nat) (t : Tr) : Prop where
  cal : CalAt K H a ws
  say : SayAt K H s t
  ok : SgOk ws sg b n
  bad : badAt ws sg = none
  out : outAt b (b + n) t = none
  le : PlLe t
  sz : t.size ≤ 1000
theorem QOk.mono {K : Frag} {H H' : Hp} {a s : Addr} {ws : List (List Nat)} {sg : List Nat} {b : Int} {n : Nat} {t : Tr} (e : Ex H H') (h : QOk K H a s ws sg b n t) : QOk K H' a s ws sg b n t := ⟨h.cal.mono e, h.say.mono e, h.ok, h.bad, h.out, h.le, h.sz⟩
theorem QOk.monoD {K : Frag} {H H' : Hp} {a s : Addr} {ws : List (List Nat)} {sg : List Nat} {b : Int} {n : Nat} {t : Tr} (e : ExD H H') (h : QOk K H a s ws sg b n t) : QOk K H' a s ws sg b n t := ⟨h.cal.monoD e, h.say.monoD e, h.ok, h.bad, h.out, h.le, h.sz⟩
def sp_shows_P (K : Frag) : Sp := fun vs H Q _ => ∃ (x a s : Addr) (ws : List (List Nat)) (sg p : List Nat) (b : Int) (n : Nat) (t : Tr), vs = [.ref x, .bl (pcJudge ws sg b n t p), .str "claim: broken"] ∧ PcAt K H x a sg b (b + n) s p ∧ QOk K H a s ws sg b n t ∧ p.length ≤ 1000 ∧ ∀ H', Ex H H' → Q (.bl true) H'
def sp_shows_L (K : Frag) : Sp := fun vs H Q _ => ∃ (x a s : Addr) (ws : List (List Nat)) (sg : List Nat) (b : Int) (n : Nat) (t : Tr) (ks : List (List Nat)), vs = [.ref x, .bl (lcJudge ws sg b n t ks), .str "claim: for all"] ∧ LcAt K H x a sg b (b + n) s ks ∧ QOk K H a s ws sg b n t ∧ ks.length ≤ 1000 ∧ (∀ k ∈ ks, k ∈ allT n) ∧ ∀ H', Ex H H' → Q (.bl true) H'
theorem PcAt.inst {K : Frag} {H : Hp} {P : Prop} {x a s : Addr} {sg p : List Nat} {b e : Int} {m : Str} (h : PcAt K H x a sg b e s p) (hm : (CF a sg b e s "_page" (.str (tx p))).lookup m = none) (q : P) : rInst (gA K "PageCertificate") m (.ref x) H P := by
  obtain ⟨dx, h1⟩ := h
  exact inst_ok h1 hm q
theorem LcAt.inst {K : Frag} {H : Hp} {P : Prop} {x a s : Addr} {sg : List Nat} {ks : List (List Nat)} {b e : Int} {m : Str} (h : LcAt K H x a sg b e s ks) (hm : ∀ l, (CF a sg b e s "_coats" (.ref l)).lookup m = none) (q : P) : rInst (gA K "ListCertificate") m (.ref x) H P := by
  obtain ⟨dx, l, h1, _⟩ := h
  exact inst_ok h1 (hm l) q
theorem sc_law_shows : FnScope ["_law_paper", "_law_due", "_law_words_here", "_law_k", "_law_told"] ["_law_paper", "_law_due", "_law_words_here"] (defScope s_law_shows) := ⟨rfl, rfl, rfl, by decide +kernel, rfl, by decide +kernel, by decide +kernel⟩
theorem b_law_shows {K : Frag} {mg : Str → Option Value} (c : Wd K mg) : Binds K (fdOf K (gA K "_law_shows")) ["_law_paper", "_law_due", "_law_words_here"] [] := c.f_law_shows.binds (fun _ _ _ _ _ _ us hl => match us, hl with | [_, _, _], _ => rfl)
theorem ok_law_shows_PageCertificate {P : Program} {w : World} {K : Frag} {mg : Str → Option Value} {base : Heap} (c : Wd K mg) (M : MainOk P) : FnOk P w K mg base (L2.CX P w) 9 (gA K "_law_shows") (fdOf K (gA K "_law_shows")) ["_law_paper", "_law_due", "_law_words_here"] (sp_shows_P K) := by
  refine c.f_law_shows.okX sc_law_shows (fun vs H Q E h => ?_) (fun cdv A outer s H vs Q E hr h => ⟨_, PSs.nox (pss_cons (ps_if (pt_not (pt_val (pe_callB call_isi (by rfl) c.z_isinstance (by decide +kernel) (pa_cons (pv 0) (pa_cons (pe_cls rfl c.g_Certificate) pa_nil))))) (pss_one (ps_ret pe_bl)) pss_nil)
      (pss_cons (ps_for PassesOwn.never rfl (pi_range1 rfl c.z_range (pa_cons pe_int pa_nil)) (pg_name (i := 3) sc_law_shows.nd rfl (Or.inl rfl)) (pss_cons (ps_set (i := 4) sc_law_shows.nd rfl (Or.inl rfl) (pe_meth0 (pv 0) c.c_PageCertificate c.m_PageCertificate_judged (ok_PageCertificate_judged c) (hr.mono (by decide)) (b_PageCertificate_judged c) .nil passL))
      (pss_cons (ps_if (PW.pt (pw_or (pt_not (pt_val (pe_callB call_isi (by rfl) c.z_isinstance (by decide +kernel) (pa_cons (pv 4) (pa_cons (pe_bltn (v := .ty "bool") rfl c.z_bool (by decide +kernel) rfl) pa_nil))))) (pw_or1 (pt_cmpR op_ne (pv 4) (pv 1) (nomark _))))) (pss_one (ps_ret pe_bl)) pss_nil)
      (pss_one (ps_if (pt_cmpR op_ne (pe_meth0 (pv 0) c.c_PageCertificate c.m_PageCertificate_claim (ok_PageCertificate_claim c M) (hr.mono (by decide)) (b_PageCertificate_claim c) .nil passL) (pv 2) (nomark _)) (pss_one (ps_ret pe_bl)) pss_nil)))))
      (pss_one (ps_ret pe_bl)))), ?_⟩)
  · obtain ⟨x, a, s', ws, sg, p, b, n, t, rfl, hx, ok, hpl, hQ⟩ := h
    rfl
  obtain ⟨x, a, s', ws, sg, p, b, n, t, rfl, hx, ok, hpl, hQ⟩ := h
  walk_at "wp"
  refine isi_ok (hx.tyx c) c.is_PageCertificate_Certificate ?_
  walk_at "wp"
  walk_at "om"
  refine lp_rng (fun i σ' H' => ∃ y z, σ' = [some (.ref x), some (.bl (pcJudge ws sg b n t p)), some (.str "claim: broken"), y, z] ∧ Ex H H') ⟨_, _, rfl, Evl.Ex.refl _⟩ ?_ ?_
  · rintro i σ' H1 hi ⟨y, z, rfl, hx1⟩
    have ok1 := ok.mono hx1
    have hp1 := hx.mono hx1
    walk_at "wp"
    refine hp1.inst (by rfl) ?_
    refine ⟨x, a, s', ws, sg, p, b, n, t, rfl, hp1, ok1.cal, ok1.say, ok1.ok, ok1.bad, ok1.out, ok1.le, ok1.sz, hpl, fun H2 hx2 => ?_⟩
    have hp2 := hp1.mono hx2
    walk_at "wp"
    refine isb_ok ?_
    walk_at "wp"
    refine hp2.inst (by rfl) ?_
    obtain ⟨dx, h2⟩ := id hp2
    refine ⟨x, dx, _, rfl, h2, ?_⟩
    rw [lit_broken]
    walk_at "wp"
    exact hx1.trans hx2
  · rintro σ' H1 ⟨y, z, rfl, hx1⟩
    walk_at "wp"
    exact hQ _ hx1
theorem ok_law_shows_ListCertificate {P : Program} {w : World} {K : Frag} {mg : Str → Option Value} {base : Heap} (c : Wd K mg) (M : MainOk P) : FnOk P w K mg base (L2.CX P w) 9 (gA K "_law_shows") (fdOf K (gA K "_law_shows")) ["_law_paper", "_law_due", "_law_words_here"] (sp_shows_L K) := by
  refine c.f_law_shows.okX sc_law_shows (fun vs H Q E h => ?_) (fun cdv A outer s H vs Q E hr h => ⟨_, PSs.nox (pss_cons (ps_if (pt_not (pt_val (pe_callB call_isi (by rfl) c.z_isinstance (by decide +kernel) (pa_cons (pv 0) (pa_cons (pe_cls rfl c.g_Certificate) pa_nil))))) (pss_one (ps_ret pe_bl)) pss_nil)
      (pss_cons (ps_for PassesOwn.never rfl (pi_range1 rfl c.z_range (pa_cons pe_int pa_nil)) (pg_name (i := 3) sc_law_shows.nd rfl (Or.inl rfl)) (pss_cons (ps_set (i := 4) sc_law_shows.nd rfl (Or.inl rfl) (pe_meth0 (pv 0) c.c_ListCertificate c.m_ListCertificate_judged (ok_ListCertificate_judged c) (hr.mono (by decide)) (b_ListCertificate_judged c) .nil passL))
      (pss_cons (ps_if (PW.pt (pw_or (pt_not (pt_val (pe_callB call_isi (by rfl) c.z_isinstance (by decide +kernel) (pa_cons (pv 4) (pa_cons (pe_bltn (v := .ty "bool") rfl c.z_bool (by decide +kernel) rfl) pa_nil))))) (pw_or1 (pt_cmpR op_ne (pv 4) (pv 1) (nomark _))))) (pss_one (ps_ret pe_bl)) pss_nil)
      (pss_one (ps_if (pt_cmpR op_ne (pe_meth0 (pv 0) c.c_ListCertificate c.m_ListCertificate_claim (ok_ListCertificate_claim c M) (hr.mono (by decide)) (b_ListCertificate_claim c) .nil passL) (pv 2) (nomark _)) (pss_one (ps_ret pe_bl)) pss_nil)))))
      (pss_one (ps_ret pe_bl)))), ?_⟩)
  · obtain ⟨x, a, s', ws, sg, b, n, t, ks, rfl, hx, ok, hkl, hka, hQ⟩ := h
    rfl
  obtain ⟨x, a, s', ws, sg, b, n, t, ks, rfl, hx, ok, hkl, hka, hQ⟩ := h
  walk_at "wp"
  refine isi_ok (hx.tyx c) c.is_ListCertificate_Certificate ?_
  walk_at "wp"
  walk_at "om"
  refine lp_rng (fun i σ' H' => ∃ y z, σ' = [some (.ref x), some (.bl (lcJudge ws sg b n t ks)), some (.str "claim: for all"), y, z] ∧ Ex H H') ⟨_, _, rfl, Evl.Ex.refl _⟩ ?_ ?_
  · rintro i σ' H1 hi ⟨y, z, rfl, hx1⟩
    have ok1 := ok.mono hx1
    have hp1 := hx.mono hx1
    walk_at "wp"
    refine hp1.inst (fun _ => by rfl) ?_
    refine ⟨x, a, s', ws, sg, b, n, t, ks, rfl, hp1, ok1.cal, ok1.say, ok1.ok, ok1.bad, ok1.out, ok1.le, ok1.sz, hkl, hka, fun H2 hx2 => ?_⟩
    have hp2 := hp1.mono hx2
    walk_at "wp"
    refine isb_ok ?_
    walk_at "wp"
    refine hp2.inst (fun _ => by rfl) ?_
    obtain ⟨dx, l, h2, _⟩ := id hp2
    refine ⟨x, dx, _, rfl, h2, ?_⟩
    rw [lit_forall]
    walk_at "wp"
    exact hx1.trans hx2
  · rintro σ' H1 ⟨y, z, rfl, hx1⟩
    walk_at "wp"
    exact hQ _ hx1
def sp_law_shows (K : Frag) : Sp := fun vs H Q E => sp_shows_P K vs H Q E ∨ sp_shows_L K vs H Q E
theorem ok_law_shows {P : Program} {w : World} {K : Frag} {mg : Str → Option Value} {base : Heap} (c : Wd K mg) (M : MainOk P) : FnOk P w K mg base (L2.CX P w) 9 (gA K "_law_shows") (fdOf K (gA K "_law_shows")) ["_law_paper", "_law_due", "_law_words_here"] (sp_law_shows K) :=
  ⟨fun vs H Q E h => h.elim ((ok_law_shows_PageCertificate (w := w) (base := base) c M).len vs H Q E) ((ok_law_shows_ListCertificate (w := w) (base := base) c M).len vs H Q E),
    fun A outer s H args us vs Q E hr he hb hv h => h.elim ((ok_law_shows_PageCertificate c M).run A outer s H args us vs Q E hr he hb hv) ((ok_law_shows_ListCertificate c M).run A outer s H args us vs Q E hr he hb hv)⟩
end DR

set_option Elab.async false
set_option linter.all false
set_option maxRecDepth 100000
set_option maxHeartbeats 4000000
namespace DR
open PySem PySem.Spec PyProof.Rows L2
open PySem.W (Frag)
local macro_rules
  | `(tactic| walk_at "wp") => `(tactic| try simp only [L2.start, List.map_cons, List.map_nil, List.length_cons, List.length_nil, List.replicate, Nat.reduceAdd, Nat.reduceSub, List.cons_append, List.nil_append, List.append_nil, List.set_cons_succ, List.set_cons_zero,
      List.getElem?_cons_succ, List.getElem?_cons_zero, ap_K1, ap_K2, ap_seq, ap_next, ap_asg, ap_name, ap_ret, ap_retN, ap_drop, ap_ifS, ap_c, ap_var, ap_op, ap_un, ap_chain, ap_test, ap_B, ap_and, ap_or, ap_not, ap_yes, ap_notV, ap_if, ap_nil, ap_cons, ap_cb, ap_lst, ap_tup, ap_bm, ap_bm0, ap_m1, ap_call, ap_sl, ap_part, ap_nopart, ap_rI0, ap_rI, ap_rU, ap_eqI, ap_neI, ap_eqS, ap_neS, ap_eqB, ap_neB, ap_fld, ap_tup_, ap_gcons, ap_gnil, ap_gsub, ap_for, ap_lc, ap_rng1, ap_rng2, ap_list, ap_itup, ap_str, ap_enum, ap_zip, ap_inSg, ap_ninSg, ap_addS, ap_sfld, ap_meth, ap_prop, ap_make, ap_smeth, ap_never, ap_ost, ap_callS, ap_mko, ap_enumS, ap_zipS, ap_rng3, ap_listRg, ap_dnin, ap_din, ap_dput, ap_gfld, ap_kinds, ap_callO, ap_notN, ap_dc, ap_lenLets, ap_lst_, decide_true, decide_false, Bool.not_true, Bool.not_false,  ap_leS, lit_alpha, tg1, tg2, tg3, tg4, tg5, tg6, eq_self, ap_revL,  ap_rg1, ap_cval, len_abcdef, exists_and_left, exists_and_right, exists_eq_left', and_assoc, exists_eq_left, exists_eq, exists_eq', Option.some.injEq, V.int.injEq, V.str.injEq, V.ref.injEq, V.bl.injEq, V.ty.injEq, List.cons.injEq, and_true, true_and, decide_eq_true_eq, Bool.not_eq_true', decide_eq_false_iff_not, Bool.false_eq_true, if_true, if_false, reduceCtorEq, false_and, and_false, or_false, false_or, or_true, true_or, not_true_eq_false, not_false_eq_true, Int.zero_add, lit_nil, lit_a, tx_len, one_tx, tx_app, tx_inj, exists_const, forall_const])
  | `(tactic| walk_at "om") => `(tactic| repeat (refine ⟨by first | omega | exact szI, ?_⟩))

structure GW (ws : List (List Nat)) (ls : List Nat) (sets : List (List Int)) (sg : List Nat) (low : Int) (n : Nat) : Prop where
  ok : SgOk ws sg low n
  bad : badAt ws sg = none
  sub : ∀ ch ∈ sg, ch ∈ ls
  len : sets.length = ls.length
  l1 : 1 ≤ ls.length
  l4 : ls.length ≤ 4
  sml : ∀ ch ∈ ls, ch < 1000
  fnd : ∀ ch ∈ ls, ∃ k, k < ls.length ∧ Txt.find (tx ls) (tx [ch]) = (k : Int) ∧ (∀ y : Int, y ∈ sets.getD k [] ↔ y ∈ standsOf ws ch) ∧ standsOf ws ch ≠ []
def WorldAt (K : Frag) (H : Hp) (wd cal : Addr) (ws : List (List Nat)) (ls : List Nat) (sets : List (List Int)) (sg : List Nat) (low : Int) (n : Nat) : Prop := ∃ sa ca ka : Addr, H wd = some (.lst [.ref cal, .str (tx ls), .ref sa, .str (tx sg), .int low, .int (n : Nat), .ref ca, .ref ka]) ∧ CalAt K H cal ws ∧ LL H sa sets ∧
  H ca = some (.lst (sv (sg.map fun ch => signT ws ch low n))) ∧ H ka = some (.lst (sv (kindsOf ws sg low n)))
theorem isSt_world {a b c d : V} {e f g h : V} : ¬ isSt (.lst [a, b, c, d, e, f, g, h]) := fun ⟨_, _, _, z⟩ => by simp at z
theorem WorldAt.monoD {K : Frag} {H H' : Hp} {wd cal : Addr} {ws : List (List Nat)} {ls : List Nat} {sets : List (List Int)} {sg : List Nat} {low : Int} {n : Nat} (e : ExD H H') (h : WorldAt K H wd cal ws ls sets sg low n) : WorldAt K H' wd cal ws ls sets sg low n := by
  obtain ⟨sa, ca, ka, h1, h2, h3, h4, h5⟩ := h
  exact ⟨sa, ca, ka, e _ _ h1 isSt_world, h2.monoD e, h3.monoD e, e _ _ h4 isSt_sv, e _ _ h5 isSt_sv⟩
theorem WorldAt.mono {K : Frag} {H H' : Hp} {wd cal : Addr} {ws : List (List Nat)} {ls : List Nat} {sets : List (List Int)} {sg : List Nat} {low : Int} {n : Nat} (e : Ex H H') (h : WorldAt K H wd cal ws ls sets sg low n) : WorldAt K H' wd cal ws ls sets sg low n := h.monoD (.of e)
/-- the tree of the law and the saying that is asked -/
structure AskAt (K : Frag) (H : Hp) (s tr : Addr) (m : Nat) (rows : List (List Int)) (den : Bool) (low : Int) (n : Nat) : Prop where
  say : SayAt K H s (denT den (lawTr m rows))
  tree : LT H tr m rows
  m8 : m < 8
  l3 : rows.length = 3
  rws : ∀ r ∈ rows, okRow low n r
theorem AskAt.monoD {K : Frag} {H H' : Hp} {s tr : Addr} {m : Nat} {rows : List (List Int)} {den : Bool} {low : Int} {n : Nat} (e : ExD H H') (h : AskAt K H s tr m rows den low n) : AskAt K H' s tr m rows den low n := ⟨h.say.monoD e, h.tree.monoD e, h.m8, h.l3, h.rws⟩
theorem AskAt.mono {K : Frag} {H H' : Hp} {s tr : Addr} {m : Nat} {rows : List (List Int)} {den : Bool} {low : Int} {n : Nat} (e : Ex H H') (h : AskAt K H s tr m rows den low n) : AskAt K H' s tr m rows den low n := h.monoD (.of e)
theorem AskAt.q {K : Frag} {H : Hp} {s tr a : Addr} {m : Nat} {rows : List (List Int)} {den : Bool} {ws : List (List Nat)} {ls : List Nat} {sets : List (List Int)} {sg : List Nat} {low : Int} {n : Nat} (h : AskAt K H s tr m rows den low n) (g : GW ws ls sets sg low n) (ha : CalAt K H a ws) : QOk K H a s ws sg low n (denT den (lawTr m rows)) :=
  ⟨ha, h.say, g.ok, g.bad, denT_out (lawTr_in h.l3 h.rws), denT_le (lawTr_le h.l3 h.rws), by have := denT_size (d := den) (t := lawTr m rows); have := lawTr_size (m := m) (rows := rows); omega⟩
theorem eq_ne (x d : Bool) : decide (x = d) = !(x != d) := by cases x <;> cases d <;> rfl
theorem ne_ne (x d : Bool) : (!decide (x = d)) = (x != d) := by cases x <;> cases d <;> rfl
theorem cutV8 {a b c d e f g h : V} : cutV [a, b, c, d, e, f, g, h] none (some 6) = [a, b, c, d, e, f] := by
  unfold cutV
  rw [HT.sIx_none, show (some (6 : Int)) = some ((6 : Nat) : Int) from rfl, HT.sIx_nat]
  rfl
def sfOf (ls : List Nat) (sets : List (List Int)) (ch : Nat) : List Int := sets.getD (Txt.find (tx ls) (tx [ch])).toNat []
theorem page_law {ws : List (List Nat)} {ls : List Nat} {sets : List (List Int)} {sg p : List Nat} {low : Int} {n : Nat} (g : GW ws ls sets sg low n) (hp : ∀ ch ∈ p, ch ∈ ls) : lawPageCoat ws.length (p.map (sfOf ls sets)) low n = pageT ws low n p :=
  pageCoat g.ok.n3 ws.length ws low p (sfOf ls sets) rfl fun ch hc x => by
    obtain ⟨k, _, h2, h3, _⟩ := g.fnd ch (hp ch hc)
    unfold sfOf
    rw [h2, Int.toNat_natCast]
    exact h3 _
def sp_law_page_judged (K : Frag) : Sp := fun vs H Q _ => ∃ (wd cal s tr : Addr) (ws : List (List Nat)) (ls : List Nat) (sets : List (List Int)) (sg : List Nat) (low : Int) (n m : Nat) (rows : List (List Int)) (den : Bool) (p : List Nat), vs = [.ref wd, .ref s, .ref tr, .bl den, .str (tx p)] ∧ WorldAt K H wd cal ws ls sets sg low n ∧ GW ws ls sets sg low n ∧ AskAt K H s tr m rows den low n ∧ (∀ ch ∈ p, ch ∈ ls) ∧ p.length ≤ 100 ∧
  ∀ q H', Ex H H' → H' q = some (.lst [.bl true, .bl (pcJudge ws sg low n (denT den (lawTr m rows)) p)]) → Q (.ref q) H'
theorem sc_law_page_judged : FnScope ["_law_world", "_law_saying_here", "_law_tree_here", "_law_denied", "_law_page", "_law_calendar", "_law_letters", "_law_sets", "_law_signs", "_law_low", "_law_size", "_law_stands_here", "_law_coat", "_law_due", "_law_high", "_law_paper", "_law_char"] ["_law_world", "_law_saying_here", "_law_tree_here", "_law_denied", "_law_page"] (defScope s_law_page_judged) := ⟨rfl, rfl, rfl, by decide +kernel, rfl, by decide +kernel, by decide +kernel⟩
theorem b_law_page_judged {K : Frag} {mg : Str → Option Value} (c : Wd K mg) : Binds K (fdOf K (gA K "_law_page_judged")) ["_law_world", "_law_saying_here", "_law_tree_here", "_law_denied", "_law_page"] [] := c.f_law_page_judged.binds (fun _ _ _ _ _ _ us hl => match us, hl with | [_, _, _, _, _], _ => rfl)
theorem ok_law_page_judged {P : Program} {w : World} {K : Frag} {mg : Str → Option Value} {base : Heap} (c : Wd K mg) (M : MainOk P) : FnOk P w K mg base (L2.CX P w) 10 (gA K "_law_page_judged") (fdOf K (gA K "_law_page_judged")) ["_law_world", "_law_saying_here", "_law_tree_here", "_law_denied", "_law_page"] (sp_law_page_judged K) := by
  refine c.f_law_page_judged.okX sc_law_page_judged (fun vs H Q E h => ?_) (fun cdv A outer s H vs Q E hr h => ⟨_, PSs.nox (pss_cons (ps_asg (pe_slice sl_list (pv 0) po_none (po_some pe_int)) (pg_lst (n := 6) rfl (pgs_cons (pg_name (i := 5) sc_law_page_judged.nd rfl (Or.inl rfl)) (pgs_cons (pg_name (i := 6) sc_law_page_judged.nd rfl (Or.inr rfl)) (pgs_cons (pg_name (i := 7) sc_law_page_judged.nd rfl (Or.inr rfl)) (pgs_cons (pg_name (i := 8) sc_law_page_judged.nd rfl (Or.inr rfl)) (pgs_cons (pg_name (i := 9) sc_law_page_judged.nd rfl (Or.inl rfl)) (pgs_cons (pg_name (i := 10) sc_law_page_judged.nd rfl (Or.inl rfl)) pgs_nil))))))))
      (pss_cons (ps_setLc (i := 11) (own := [("_law_char", 16)]) (g := gName 16) rfl sc_law_page_judged.nd rfl rfl (sw_true rfl rfl rfl (by decide +kernel)) (pi_str (pv 4)) (blkOk_by (own := [("_law_char", 16)]) (N := ["_law_world", "_law_saying_here", "_law_tree_here", "_law_denied", "_law_page", "_law_calendar", "_law_letters", "_law_sets", "_law_signs", "_law_low", "_law_size", "_law_stands_here", "_law_coat", "_law_due", "_law_high", "_law_paper", "_law_char"]) (sc := defScope s_law_page_judged) (by decide +kernel)) (fun _ _ _ _ _ => (pg_name (i := 16) sc_law_page_judged.nd rfl (Or.inl rfl))) (fun _ _ _ _ _ => pts_nil) (fun _ _ _ _ _ => (pe_ix (r := rIxL K) ix_list (pv 7) (pe_m1 PySem.F.slot_str_find PySem.F.type_str_find mt_find (pv 6) (pv 16)) (fun _ _ => rfl))))
      (pss_cons (ps_set (i := 12) sc_law_page_judged.nd rfl (Or.inl rfl) (pe_call (ok_law_page_coat c) (hr.mono (by decide)) rfl c.g_law_page_coat c.f_law_page_coat.kp (b_law_page_coat c) .nil passL (pa_cons (pe_callB (call_lenOwnM (ok_Calendar_len c) (hr.mono (by decide)) (b_Calendar_len c) passL c.m_Calendar_len) (by rfl) c.z_len (by decide +kernel) (pa_cons (pv 5) pa_nil)) (pa_cons (pv 11) (pa_cons (pv 9) (pa_cons (pv 10) pa_nil))))))
      (pss_cons (ps_set (i := 13) sc_law_page_judged.nd rfl (Or.inl rfl) (pe_cmpR op_eq (pe_call (ok_law_says c) (hr.mono (by decide)) rfl c.g_law_says c.f_law_says.kp (b_law_says c) .nil passL (pa_cons (pv 2) (pa_cons (pv 12) (pa_cons (pv 9) pa_nil)))) (pv 3) (nomark _)))
      (pss_cons (ps_if (pt_cmpR (op_neD (hu64 hr)) (pe_lc (own := [("_law_char", 16)]) (g := gName 16) rfl sc_law_page_judged.nd (pi_str (pv 4)) (blkOk_by (own := [("_law_char", 16)]) (N := ["_law_world", "_law_saying_here", "_law_tree_here", "_law_denied", "_law_page", "_law_calendar", "_law_letters", "_law_sets", "_law_signs", "_law_low", "_law_size", "_law_stands_here", "_law_coat", "_law_due", "_law_high", "_law_paper", "_law_char"]) (sc := defScope s_law_page_judged) (by decide +kernel)) (fun _ _ _ _ _ => (pg_name (i := 16) sc_law_page_judged.nd rfl (Or.inl rfl))) (fun _ _ _ _ _ => (pts_one (pt_cmpR op_ninSg (pv 16) (pv 8) rfl))) (fun _ _ _ _ _ => (pv 16))) (pe_lst pa_nil) (nomark _)) (pss_one (ps_set (i := 13) sc_law_page_judged.nd rfl (Or.inl rfl) pe_bl)) pss_nil)
      (pss_cons (ps_set (i := 14) sc_law_page_judged.nd rfl (Or.inl rfl) (pe_op op_add (pv 9) (pv 10)))
      (pss_cons (ps_set (i := 15) sc_law_page_judged.nd rfl (Or.inl rfl) (pe_make c.mk_PageCertificate (ok_PageCertificate_init c) (hr.mono (by decide)) rfl c.g_PageCertificate (b_PageCertificate_init c) .nil passL (pa_cons (pv 5) (pa_cons (pv 8) (pa_cons (pv 9) (pa_cons (pv 14) (pa_cons (pv 1) (pa_cons (pv 4) pa_nil))))))))
      (pss_one (ps_ret (pe_lst (pa_cons (pe_call (ok_law_shows c M) (hr.mono (by decide)) rfl c.g_law_shows c.f_law_shows.kp (b_law_shows c) .nil passL (pa_cons (pv 15) (pa_cons (pv 13) (pa_cons pe_str pa_nil)))) (pa_cons (pv 13) pa_nil)))))))))))), ?_⟩)
  · obtain ⟨wd, cal, s', tr, ws, ls, sets, sg, low, n, m, rows, den, p, rfl, hw, g, hA, hpl, hpn, hQ⟩ := h
    rfl
  obtain ⟨wd, cal, s', tr, ws, ls, sets, sg, low, n, m, rows, den, p, rfl, hw, g, hA, hpl, hpn, hQ⟩ := h
  obtain ⟨sa, ca, ka, w1, w2, w3, w4, w5⟩ := id hw
  walk_at "wp"
  refine ⟨wd, _, rfl, Evl.sq_of w1, fun q0 hq0 => ?_⟩
  rw [cutV8]
  have hx1 := Evl.Ex.new (o := .lst [.ref cal, .str (tx ls), .ref sa, .str (tx sg), .int low, .int (n : Nat)]) hq0
  have hq1 : upd H q0 (.lst [.ref cal, .str (tx ls), .ref sa, .str (tx sg), .int low, .int (n : Nat)]) q0 = _ := upd_same
  revert hx1 hq1
  generalize upd H q0 (.lst [.ref cal, .str (tx ls), .ref sa, .str (tx sg), .int low, .int (n : Nat)]) = H1
  intro hx1 hq1
  walk_at "wp"
  refine ⟨_, Evl.sq_of hq1, rfl, ?_⟩
  walk_at "wp"
  have hsets := w3.mono hx1
  obtain ⟨as, ha1, ha2, ha3⟩ := id hsets
  intro D hD
  refine lc_V (walk_tx p) (fun _ => true) (fun i => .ref (as.getD (Txt.find (tx ls) (tx [p.getD i 0])).toNat 0)) (fun _ _ => trivial) (by omega) hD ?_ ?_
  · rintro i v H2 H3 hi hx2 ⟨rfl, rfl⟩ Q' QN q1 q2
    refine ⟨rfl, ?_⟩
    simp only [wipe]
    walk_at "wp"
    obtain ⟨k, k1, k2, _⟩ := g.fnd _ (hpl _ (getD_mem hi))
    rw [k2, Int.toNat_natCast] at q1
    rw [k2]
    have hk : k < as.length := by rw [ha2, g.len]; exact k1
    refine ixL_v k (v := .ref (as.getD k 0)) (Evl.sq_of (hx2 _ _ ha1)) rfl ?_ (q1 _ (Evl.Ex.refl _) rfl)
    rw [List.getElem?_map, List.getD_eq_getElem?_getD, List.getElem?_eq_getElem hk]
    rfl
  · intro H2 hx2 hD2
    have hx12 := hx1.trans hx2
    have hLL : LL H2 D (p.map (sfOf ls sets)) := by
      refine ⟨(List.range p.length).map fun i => as.getD (Txt.find (tx ls) (tx [p.getD i 0])).toNat 0, ?_, by simp, fun i hi => ?_⟩
      · rw [hD2, List.filter_eq_self.mpr (fun _ _ => rfl), List.map_map]
        rfl
      · rw [List.length_map] at hi
        refine ⟨_, by rw [List.getElem?_map, List.getElem?_range hi]; rfl, ?_⟩
        obtain ⟨k, k1, k2, _⟩ := g.fnd _ (hpl _ (getD_mem (d := 0) hi))
        have hk : k < sets.length := by rw [g.len]; exact k1
        obtain ⟨aa, e1, e2⟩ := ha3 k hk
        have e3 : (p.map (sfOf ls sets)).getD i [] = sets.getD k [] := by
          rw [List.getD_eq_getElem?_getD, List.getElem?_map, List.getElem?_eq_getElem hi]
          have : p.getD i 0 = p[i] := by rw [List.getD_eq_getElem?_getD, List.getElem?_eq_getElem hi]; rfl
          show sfOf ls sets p[i] = _
          unfold sfOf
          rw [← this, k2, Int.toNat_natCast]
        show H2 (as.getD (Txt.find (tx ls) (tx [p.getD i 0])).toNat 0) = _
        rw [e3, k2, Int.toNat_natCast, List.getD_eq_getElem?_getD, e1]
        exact hx2 _ _ e2
    have hw2 := hw.mono hx12
    have hA2 := hA.mono hx12
    have hcal := w2.mono hx12
    obtain ⟨cdx, cw, cal1, cal2⟩ := id hcal
    have hn3 := g.ok.n3
    have hlaw := page_law g hpl
    walk_at "wp"
    refine ⟨cal, cdx, _, rfl, cal1, cal, ws, rfl, hcal, ws.length, rfl, by omega, by have := g.ok.w6; omega, ?_⟩
    refine ⟨ws.length, n, D, low, p.map (sfOf ls sets), rfl, hLL, g.ok.w0, by rw [List.length_map]; exact hpn, by omega, by have := g.ok.b1; omega, by have := g.ok.b2; omega, fun H3 hx3 => ?_⟩
    rw [hlaw]
    have hpt := pageT_in hn3 ws low p
    have hptl := (allT_mem hpt.1).2
    walk_at "wp"
    have hA3 := hA2.mono hx3
    refine ⟨tr, m, rows, pageT ws low n p, low, n, rfl, hA3.tree, hA.m8, hA.l3, hA.rws, by omega, fun H4 hx4 => ?_⟩
    rw [says_ev hn3 hpt.1 hA.m8 hA.l3 hA.rws]
    walk_at "wp"
    have hx14 := (hx12.trans hx3).trans hx4
    intro D2 hD2'
    refine lc_V (walk_tx p) (fun i => !decide (p.getD i 0 ∈ sg)) (fun i => .str (tx [p.getD i 0])) (fun _ _ => trivial) (by omega) hD2' ?_ ?_
    · rintro i v H5 H6 hi hx5 ⟨rfl, rfl⟩ Q' QN q1 q2
      refine ⟨rfl, ?_⟩
      simp only [wipe]
      walk_at "wp"
      by_cases h : p.getD i 0 ∈ sg
      · rw [if_neg (not_not_intro h)]
        rw [decide_eq_true h] at q2
        exact q2 _ (Evl.Ex.refl _) rfl
      · rw [if_pos h]
        rw [decide_eq_false h] at q1
        exact q1 _ (Evl.Ex.refl _) rfl
    · intro H5 hx5 hD5
      have hflat : (((List.range p.length).filter fun i => !decide (p.getD i 0 ∈ sg)).map fun i => V.str (tx [p.getD i 0])).all flatW = true := by
        rw [List.all_map, List.all_eq_true]
        intro i hi
        have hi2 := List.mem_range.mp (List.mem_filter.mp hi).1
        have := g.sml _ (hpl _ (getD_mem (d := 0) hi2))
        show (tx [p.getD i 0]).cps.all (· < 0x110000) = true
        simp only [tx, List.all_toArray, List.all_cons, List.all_nil, Bool.and_true, decide_eq_true_eq]
        omega
      refine ⟨szI (by show 0 ≤ 100000; omega), fun l hl => ?_⟩
      have hx6 := Evl.Ex.new (o := .lst []) hl
      refine ne_nil (hx6 _ _ hD5) upd_same hflat ?_
      revert hx6
      generalize upd H5 l (.lst []) = H6
      intro hx6
      have hx16 := (hx14.trans hx5).trans hx6
      have hemp : (((List.range p.length).filter fun i => !decide (p.getD i 0 ∈ sg)).map fun i => V.str (tx [p.getD i 0])).isEmpty = p.all fun ch => decide (ch ∈ sg) := by
        rw [List.isEmpty_map]
        have h1 := anyNin p sg
        cases hall : p.all fun ch => decide (ch ∈ sg) with
        | true =>
          rw [hall] at h1
          rw [List.isEmpty_iff, List.filter_eq_nil_iff]
          intro i hi
          rw [Bool.not_true, List.any_eq_false] at h1
          exact h1 i hi
        | false =>
          rw [hall] at h1
          rw [Bool.not_false, List.any_eq_true] at h1
          obtain ⟨i, hi, h2⟩ := h1
          cases e : (List.range p.length).filter fun i => !decide (p.getD i 0 ∈ sg) with
          | nil => exact absurd h2 (by simpa using List.filter_eq_nil_iff.mp e i hi)
          | cons _ _ => rfl
      rw [hemp]
      have hdue : pcJudge ws sg low n (denT den (lawTr m rows)) p = if p.all (fun ch => decide (ch ∈ sg)) = true then decide (evT (lawTr m rows) low (pageT ws low n p) = den) else false := by
        unfold pcJudge
        rw [denT_ev, eq_ne]
      have fin : rMake (gA K "PageCertificate") (fun x H2 => sp_PageCertificate_init K (.ref x :: ([.ref cal, .str (tx sg), .int low, .int (low + n), .ref s', .str (tx p)] ++ [])) H2 (fun v H3 => v = .non ∧ sp_law_shows K [.ref x, .bl (pcJudge ws sg low n (denT den (lawTr m rows)) p), .str "claim: broken"] H3 (fun x1 H8 => 2 ≤ sizeLine ∧ ∀ p1, H8 p1 = none → Q (.ref p1) (upd H8 p1 (.lst [x1, .bl (pcJudge ws sg low n (denT den (lawTr m rows)) p)]))) E0) E0) H6 := by
        refine mk_pc fun x H7 hx hx7 h7 => ?_
        have hx17 := hx16.trans hx7
        refine .inl ⟨x, cal, s', ws, sg, p, low, n, denT den (lawTr m rows), rfl, h7, (hA.mono hx17).q g (w2.mono hx17), by omega, fun H8 hx8 => ⟨szI (by omega), fun p1 hp1 => hQ p1 _ ((hx17.trans hx8).trans (Evl.Ex.new hp1)) upd_same⟩⟩
      cases hall : p.all fun ch => decide (ch ∈ sg) with
      | true =>
        rw [hall, if_pos rfl] at hdue
        rw [← hdue]
        walk_at "wp"
        exact fin
      | false =>
        rw [hall, if_neg Bool.false_ne_true] at hdue
        rw [hdue] at fin
        walk_at "wp"
        exact fin
end DR

set_option Elab.async false
set_option linter.all false
set_option maxRecDepth 100000
set_option maxHeartbeats 4000000
namespace DR
open PySem PySem.Spec PyProof.Rows L2
open PySem.W (Frag)
local macro_rules
  | `(tactic| walk_at "wp") => `(tactic| try simp only [L2.start, List.map_cons, List.map_nil, List.length_cons, List.length_nil, List.replicate, Nat.reduceAdd, Nat.reduceSub, List.cons_append, List.nil_append, List.append_nil, List.set_cons_succ, List.set_cons_zero,
      List.getElem?_cons_succ, List.getElem?_cons_zero, ap_K1, ap_K2, ap_seq, ap_next, ap_asg, ap_name, ap_ret, ap_retN, ap_drop, ap_ifS, ap_c, ap_var, ap_op, ap_un, ap_chain, ap_test, ap_B, ap_and, ap_or, ap_not, ap_yes, ap_notV, ap_if, ap_nil, ap_cons, ap_cb, ap_lst, ap_tup, ap_bm, ap_bm0, ap_m1, ap_call, ap_sl, ap_part, ap_nopart, ap_rI0, ap_rI, ap_rU, ap_eqI, ap_neI, ap_eqS, ap_neS, ap_eqB, ap_neB, ap_fld, ap_tup_, ap_gcons, ap_gnil, ap_gsub, ap_for, ap_lc, ap_rng1, ap_rng2, ap_list, ap_itup, ap_str, ap_enum, ap_zip, ap_inSg, ap_ninSg, ap_addS, ap_sfld, ap_meth, ap_prop, ap_make, ap_smeth, ap_never, ap_ost, ap_callS, ap_mko, ap_enumS, ap_zipS, ap_rng3, ap_listRg, ap_dnin, ap_din, ap_dput, ap_gfld, ap_kinds, ap_callO, ap_notN, ap_dc, ap_lenLets, ap_lst_, decide_true, decide_false, Bool.not_true, Bool.not_false,  ap_leS, lit_alpha, tg1, tg2, tg3, tg4, tg5, tg6, eq_self, ap_revL,  ap_rg1, ap_cval, len_abcdef, exists_and_left, exists_and_right, exists_eq_left', and_assoc, exists_eq_left, exists_eq, exists_eq', Option.some.injEq, V.int.injEq, V.str.injEq, V.ref.injEq, V.bl.injEq, V.ty.injEq, List.cons.injEq, and_true, true_and, decide_eq_true_eq, Bool.not_eq_true', decide_eq_false_iff_not, Bool.false_eq_true, if_true, if_false, reduceCtorEq, false_and, and_false, or_false, false_or, or_true, true_or, not_true_eq_false, not_false_eq_true, Int.zero_add, lit_nil, lit_a, tx_len, one_tx, tx_app, tx_inj, exists_const, forall_const])
  | `(tactic| walk_at "om") => `(tactic| repeat (refine ⟨by first | omega | exact szI, ?_⟩))

theorem closedB_iff {ws : List (List Nat)} {sg : List Nat} {low : Int} {n : Nat} {ts : List (List Nat)} (hn : n ≤ 3) (ht : ∀ t ∈ ts, t ∈ allT n) : lawClosedB ts (sg.map fun ch => signT ws ch low n) n = true ↔ Closed ws sg low n ts := by
  unfold lawClosedB Closed
  simp only [Bool.and_eq_true, List.all_eq_true, decide_eq_true_eq]
  constructor
  · rintro ⟨h1, h2⟩
    refine ⟨h1, fun t hm ch hc => ?_⟩
    have := h2 t hm (signT ws ch low n) (List.mem_map.mpr ⟨ch, hc, rfl⟩)
    rwa [(mul_in hn (ht t hm) (signT_in hn ws ch low).2.1).2] at this
  · rintro ⟨h1, h2⟩
    refine ⟨h1, fun t hm k hk => ?_⟩
    obtain ⟨ch, hc, rfl⟩ := List.mem_map.mp hk
    rw [(mul_in hn (ht t hm) (signT_in hn ws ch low).2.1).2]
    exact h2 t hm ch hc
theorem lc_law {ws : List (List Nat)} {sg : List Nat} {low : Int} {n m : Nat} {rows : List (List Int)} {den : Bool} {ts : List (List Nat)} (hn : n ≤ 3) (ht : ∀ t ∈ ts, t ∈ allT n) (hm : m < 8) (hl : rows.length = 3) (hr : ∀ r ∈ rows, okRow low n r) :
    (lawClosedB ts (sg.map fun ch => signT ws ch low n) n && ts.all fun t => lawSays m rows t low != den) = lcJudge ws sg low n (denT den (lawTr m rows)) ts := by
  rw [Bool.eq_iff_iff, lcJudge_iff, Bool.and_eq_true, closedB_iff hn ht, List.all_eq_true]
  refine and_congr_right fun _ => forall_congr' fun t => forall_congr' fun hm2 => ?_
  rw [denT_ev, says_ev hn (ht t hm2) hm hl hr]
def sp_law_list_judged (K : Frag) : Sp := fun vs H Q _ => ∃ (wd cal s tr ta : Addr) (ws : List (List Nat)) (ls : List Nat) (sets : List (List Int)) (sg : List Nat) (low : Int) (n m : Nat) (rows : List (List Int)) (den : Bool) (ts : List (List Nat)), vs = [.ref wd, .ref s, .ref tr, .bl den, .ref ta] ∧ WorldAt K H wd cal ws ls sets sg low n ∧ GW ws ls sets sg low n ∧ AskAt K H s tr m rows den low n ∧ H ta = some (.lst (sv ts)) ∧ ts.length ≤ 200 ∧ (∀ t ∈ ts, t ∈ allT n) ∧
  ∀ q H', Ex H H' → H' q = some (.lst [.bl true, .bl (lcJudge ws sg low n (denT den (lawTr m rows)) ts)]) → Q (.ref q) H'
theorem sc_law_list_judged : FnScope ["_law_world", "_law_saying_here", "_law_tree_here", "_law_denied", "_law_texts", "_law_signs", "_law_low", "_law_high", "_law_due", "_law_text", "_law_coats", "_law_paper"] ["_law_world", "_law_saying_here", "_law_tree_here", "_law_denied", "_law_texts"] (defScope s_law_list_judged) := ⟨rfl, rfl, rfl, by decide +kernel, rfl, by decide +kernel, by decide +kernel⟩
theorem b_law_list_judged {K : Frag} {mg : Str → Option Value} (c : Wd K mg) : Binds K (fdOf K (gA K "_law_list_judged")) ["_law_world", "_law_saying_here", "_law_tree_here", "_law_denied", "_law_texts"] [] := c.f_law_list_judged.binds (fun _ _ _ _ _ _ us hl => match us, hl with | [_, _, _, _, _], _ => rfl)
theorem ok_law_list_judged {P : Program} {w : World} {K : Frag} {mg : Str → Option Value} {base : Heap} (c : Wd K mg) (M : MainOk P) : FnOk P w K mg base (L2.CX P w) 10 (gA K "_law_list_judged") (fdOf K (gA K "_law_list_judged")) ["_law_world", "_law_saying_here", "_law_tree_here", "_law_denied", "_law_texts"] (sp_law_list_judged K) := by
  refine c.f_law_list_judged.okX sc_law_list_judged (fun vs H Q E h => ?_) (fun cdv A outer s H vs Q E hr h => ⟨_, PSs.nox (pss_cons (ps_set (i := 5) sc_law_list_judged.nd rfl (Or.inl rfl) (pe_ix ix_list (pv 0) pe_int (fun _ _ => rfl)))
      (pss_cons (ps_set (i := 6) sc_law_list_judged.nd rfl (Or.inl rfl) (pe_ix ix_list (pv 0) pe_int (fun _ _ => rfl)))
      (pss_cons (ps_set (i := 7) sc_law_list_judged.nd rfl (Or.inl rfl) (pe_op op_add (pv 6) (pe_ix ix_list (pv 0) pe_int (fun _ _ => rfl))))
      (pss_cons (ps_set (i := 8) sc_law_list_judged.nd rfl (Or.inl rfl) (pe_call (ok_law_closed c) (hr.mono (by decide)) rfl c.g_law_closed c.f_law_closed.kp (b_law_closed c) .nil passL (pa_cons (pv 4) (pa_cons (pe_ix ix_list (pv 0) pe_int (fun _ _ => rfl)) (pa_cons (pe_ix ix_list (pv 0) pe_int (fun _ _ => rfl)) pa_nil)))))
      (pss_cons (ps_for PassesOwn.never rfl (pi_list (pv 4)) (pg_name (i := 9) sc_law_list_judged.nd rfl (Or.inl rfl)) (pss_one (ps_set (i := 8) sc_law_list_judged.nd rfl (Or.inl rfl) (pe_and (pv 8) (pe_one (pe_cmpR op_ne (pe_call (ok_law_says c) (hr.mono (by decide)) rfl c.g_law_says c.f_law_says.kp (b_law_says c) .nil passL (pa_cons (pv 2) (pa_cons (pv 9) (pa_cons (pv 6) pa_nil)))) (pv 3) (nomark _)))))))
      (pss_cons (ps_setLc (i := 10) (own := [("_law_text", 9)]) (g := gName 9) rfl sc_law_list_judged.nd rfl rfl (sw_true rfl rfl rfl (by decide +kernel)) (pi_list (pv 4)) (blkOk_by (own := [("_law_text", 9)]) (N := ["_law_world", "_law_saying_here", "_law_tree_here", "_law_denied", "_law_texts", "_law_signs", "_law_low", "_law_high", "_law_due", "_law_text", "_law_coats", "_law_paper"]) (sc := defScope s_law_list_judged) (by decide +kernel)) (fun _ _ _ _ _ => (pg_name (i := 9) sc_law_list_judged.nd rfl (Or.inl rfl))) (fun _ _ _ _ _ => pts_nil) (fun _ _ _ _ _ => (pe_make c.mk_Coat (ok_Coat_init c) (hr.mono (by decide)) rfl c.g_Coat (b_Coat_init c) .nil passL (pa_cons (pv 9) pa_nil))))
      (pss_cons (ps_set (i := 11) sc_law_list_judged.nd rfl (Or.inl rfl) (pe_make c.mk_ListCertificate (ok_ListCertificate_init c) (hr.mono (by decide)) rfl c.g_ListCertificate (b_ListCertificate_init c) .nil passL (pa_cons (pe_ix ix_list (pv 0) pe_int (fun _ _ => rfl)) (pa_cons (pv 5) (pa_cons (pv 6) (pa_cons (pv 7) (pa_cons (pv 1) (pa_cons (pv 10) pa_nil))))))))
      (pss_one (ps_ret (pe_lst (pa_cons (pe_call (ok_law_shows c M) (hr.mono (by decide)) rfl c.g_law_shows c.f_law_shows.kp (b_law_shows c) .nil passL (pa_cons (pv 11) (pa_cons (pv 8) (pa_cons pe_str pa_nil)))) (pa_cons (pv 8) pa_nil)))))))))))), ?_⟩)
  · obtain ⟨wd, cal, s', tr, ta, ws, ls, sets, sg, low, n, m, rows, den, ts, rfl, hw, g, hA, hta, htl, hts, hQ⟩ := h
    rfl
  obtain ⟨wd, cal, s', tr, ta, ws, ls, sets, sg, low, n, m, rows, den, ts, rfl, hw, g, hA, hta, htl, hts, hQ⟩ := h
  obtain ⟨sa, ca, ka, w1, w2, w3, w4, w5⟩ := id hw
  have hn3 := g.ok.n3
  have hsgl := g.ok.sgl
  have hlen : ∀ t ∈ ts, t.length = n + 1 := fun t h => (allT_mem (hts t h)).2
  walk_at "wp"
  refine ixL_v 3 (Evl.sq_of w1) rfl rfl ?_
  walk_at "wp"
  refine ixL_v 4 (Evl.sq_of w1) rfl rfl ?_
  walk_at "wp"
  refine ixL_v 5 (Evl.sq_of w1) rfl rfl ?_
  walk_at "wp"
  refine ixL_v 6 (Evl.sq_of w1) rfl rfl ?_
  refine ixL_v 5 (Evl.sq_of w1) rfl rfl ?_
  refine ⟨ta, ca, ts, sg.map fun ch => signT ws ch low n, n, rfl, Evl.sq_of hta, Evl.sq_of w4, by omega, fun t h => by rw [hlen t h]; omega, fun t h => ?_, fun H1 hx1 => ?_⟩
  · obtain ⟨ch, _, rfl⟩ := List.mem_map.mp h
    rw [(allT_mem (signT_in hn3 ws ch low).2.1).2]
    omega
  have hta1 := hx1 _ _ hta
  walk_at "wp"
  refine ⟨⟨_, Evl.sq_of hta1⟩, ?_⟩
  refine lp_list (fun i σ' H' => ∃ y, σ' = [some (.ref wd), some (.ref s'), some (.ref tr), some (.bl den), some (.ref ta), some (.str (tx sg)), some (.int low), some (.int (low + n)), some (.bl (lawClosedB ts (sg.map fun ch => signT ws ch low n) n && (ts.take i).all fun t => lawSays m rows t low != den)), y, none, none] ∧ Ex H H')
    ⟨_, by rw [List.take_zero, List.all_nil, Bool.and_true], hx1⟩ (fun i σ' H' _ ⟨_, _, e⟩ => Evl.sq_of (e _ _ hta)) ?_ ?_
  · rintro i v σ' H2 hi hv ⟨y, rfl, hx2⟩
    obtain ⟨rfl, hi2, hm⟩ := sv_at hi hv
    have hA2 := hA.mono hx2
    walk_at "wp"
    have htk : ts.take (i + 1) = ts.take i ++ [ts.getD i []] := by
      rw [List.take_add_one, List.getElem?_eq_getElem hi2, List.getD_eq_getElem?_getD, List.getElem?_eq_getElem hi2]
      rfl
    rw [htk, List.all_append, List.all_cons, List.all_nil, Bool.and_true, ← Bool.and_assoc]
    generalize (lawClosedB ts (sg.map fun ch => signT ws ch low n) n && (ts.take i).all fun t => lawSays m rows t low != den) = due
    refine ⟨_, rfl, due, rfl, ?_⟩
    cases due with
    | false => exact ⟨rfl, hx2⟩
    | true =>
      rw [if_pos rfl]
      walk_at "wp"
      refine ⟨tr, m, rows, ts.getD i [], low, n, rfl, hA2.tree, hA2.m8, hA2.l3, hA2.rws, by rw [hlen _ hm]; omega, fun H3 hx3 => ?_⟩
      walk_at "wp"
      refine ⟨?_, hx2.trans hx3⟩
      rw [Bool.true_and, ne_ne]
  · rintro σ' H2 ⟨y, rfl, hx2⟩
    rw [sv_len, List.take_length, lc_law hn3 hts hA.m8 hA.l3 hA.rws]
    walk_at "wp"
    refine ⟨⟨_, Evl.sq_of (hx2 _ _ hta)⟩, fun D hD => ?_⟩
    have hS2 : SqL K H2 ta (sv ts) := Evl.sq_of (hx2 _ _ hta)
    refine lc_RA (R := CoR K) (n := (sv ts).length) walk_list CoR.monoD.to CoR.off (fun _ => true) (fun i => ts.getD i []) (fun H' e => Evl.ex_l e hS2) (by rw [sv_len]; omega) hD ?_ ?_
    · rintro i v H3 H4 hi hx3 ⟨rfl, hv⟩ Q' QN q1 q2
      obtain ⟨rfl, hi2, hm⟩ := sv_at hi hv
      refine ⟨rfl, ?_⟩
      simp only [wipe]
      walk_at "wp"
      refine mk_coat (allT_mem (hts _ hm)).1 fun p H5 hp hx5 h5 => q1 p H5 hx5 h5 rfl
    · intro H3 hx3 hR
      have eR : ((List.range (sv ts).length).filter fun _ => true).map (fun i => ts.getD i []) = ts := by
        have := range_all ts [] (fun t => t)
        rw [sv_len, this, List.map_id']
      rw [eR] at hR
      have hx23 := hx2.trans hx3
      refine ixL_v 0 (Evl.sq_of (hx23 _ _ w1)) rfl rfl ?_
      refine mk_lc hR fun x H4 hx hx4 h4 => ?_
      have hx24 := hx23.trans hx4
      refine .inr ⟨x, cal, s', ws, sg, low, n, denT den (lawTr m rows), ts, rfl, h4, (hA.mono hx24).q g (w2.mono hx24), by omega, hts, fun H5 hx5 => ⟨szI (by omega), fun p1 hp1 => hQ p1 _ ((hx24.trans hx5).trans (Evl.Ex.new hp1)) upd_same⟩⟩
end DR

set_option Elab.async false
set_option linter.all false
set_option maxRecDepth 100000
set_option maxHeartbeats 4000000
namespace DR
open PySem PySem.Spec PyProof.Rows L2
open PySem.W (Frag)
local macro_rules
  | `(tactic| walk_at "wp") => `(tactic| try simp only [L2.start, List.map_cons, List.map_nil, List.length_cons, List.length_nil, List.replicate, Nat.reduceAdd, Nat.reduceSub, List.cons_append, List.nil_append, List.append_nil, List.set_cons_succ, List.set_cons_zero,
      List.getElem?_cons_succ, List.getElem?_cons_zero, ap_K1, ap_K2, ap_seq, ap_next, ap_asg, ap_name, ap_ret, ap_retN, ap_drop, ap_ifS, ap_c, ap_var, ap_op, ap_un, ap_chain, ap_test, ap_B, ap_and, ap_or, ap_not, ap_yes, ap_notV, ap_if, ap_nil, ap_cons, ap_cb, ap_lst, ap_tup, ap_bm, ap_bm0, ap_m1, ap_call, ap_sl, ap_part, ap_nopart, ap_rI0, ap_rI, ap_rU, ap_eqI, ap_neI, ap_eqS, ap_neS, ap_eqB, ap_neB, ap_fld, ap_tup_, ap_gcons, ap_gnil, ap_gsub, ap_for, ap_lc, ap_rng1, ap_rng2, ap_list, ap_itup, ap_str, ap_enum, ap_zip, ap_inSg, ap_ninSg, ap_addS, ap_sfld, ap_meth, ap_prop, ap_make, ap_smeth, ap_never, ap_ost, ap_callS, ap_mko, ap_enumS, ap_zipS, ap_rng3, ap_listRg, ap_dnin, ap_din, ap_dput, ap_gfld, ap_kinds, ap_callO, ap_notN, ap_dc, ap_lenLets, ap_lst_, decide_true, decide_false, Bool.not_true, Bool.not_false,  ap_leS, lit_alpha, tg1, tg2, tg3, tg4, tg5, tg6, eq_self, ap_revL,  ap_rg1, ap_cval, len_abcdef, exists_and_left, exists_and_right, exists_eq_left', and_assoc, exists_eq_left, exists_eq, exists_eq', Option.some.injEq, V.int.injEq, V.str.injEq, V.ref.injEq, V.bl.injEq, V.ty.injEq, List.cons.injEq, and_true, true_and, decide_eq_true_eq, Bool.not_eq_true', decide_eq_false_iff_not, Bool.false_eq_true, if_true, if_false, reduceCtorEq, false_and, and_false, or_false, false_or, or_true, true_or, not_true_eq_false, not_false_eq_true, Int.zero_add, lit_nil, lit_a, tx_len, one_tx, tx_app, tx_inj, exists_const, forall_const])
  | `(tactic| walk_at "om") => `(tactic| repeat (refine ⟨by first | omega | exact szI, ?_⟩))

theorem refusal_none {ws : List (List Nat)} {sg : List Nat} {b : Int} {n : Nat} {t : Tr} (h : badAt ws sg = none) (hn : n ≤ 3) (ho : outAt b (b + n) t = none) : refusal ws sg b (b + n) t = none := by
  unfold refusal
  rw [h, ho]
  simp only [if_neg (show ¬ b + (n : Int) < b by omega), if_neg (show ¬ 5 < b + (n : Int) - b by omega)]
theorem filter_all {α : Type} (f : α → Bool) : ∀ xs : List α, decide (((xs.filter f).length : Int) = xs.length) = xs.all f
  | [] => rfl
  | x :: r => by
    have ih := filter_all f r
    have hle := List.length_filter_le f r
    cases h : f x with
    | true =>
      rw [List.filter_cons_of_pos h, List.all_cons, h, Bool.true_and, ← ih]
      refine decide_eq_decide.mpr ?_
      simp only [List.length_cons]
      omega
    | false =>
      rw [List.filter_cons_of_neg (by rw [h]; exact Bool.false_ne_true), List.all_cons, h, Bool.false_and]
      refine decide_eq_false ?_
      simp only [List.length_cons]
      omega
theorem holds_law {ws : List (List Nat)} {sg : List Nat} {low : Int} {n m : Nat} {rows : List (List Int)} {den : Bool} (hn : n ≤ 3) (hm : m < 8) (hl : rows.length = 3) (hr : ∀ r ∈ rows, okRow low n r) : ((kindsOf ws sg low n).all fun t => lawSays m rows t low != den) = holdsB ws sg low n (denT den (lawTr m rows)) := by
  have hk := (kinds_ok (ws := ws) (sg := sg) (b := low) hn).tx
  unfold holdsB
  rw [Bool.eq_iff_iff, List.all_eq_true, List.all_eq_true]
  refine forall_congr' fun t => forall_congr' fun ht => ?_
  rw [denT_ev, says_ev hn (hk t ht) hm hl hr]
/-- what decide tells -/
def PaperAt (K : Frag) (H : Hp) (x a : Addr) (sg : List Nat) (low : Int) (n : Nat) (s : Addr) (ks : List (List Nat)) (br : Option (List Nat)) : Prop := match br with
  | some p => PcAt K H x a sg low (low + n) s p
  | none => LcAt K H x a sg low (low + n) s ks
theorem PaperAt.isL {K : Frag} {mg : Str → Option Value} {H : Hp} {Q : VK} {x a s : Addr} {sg : List Nat} {low : Int} {n : Nat} {ks : List (List Nat)} {br : Option (List Nat)} (c : Wd K mg) (h : PaperAt K H x a sg low n s ks br) (q : Q (.bl br.isNone) H) : rIsi K [.ref x, .ref (gA K "ListCertificate")] H Q := by
  cases br with
  | some p => exact isi_ok (PcAt.tyx c h) c.is_PageCertificate_ListCertificate q
  | none => exact isi_ok (LcAt.tyx c h) c.is_ListCertificate_ListCertificate q
theorem PaperAt.isP {K : Frag} {mg : Str → Option Value} {H : Hp} {Q : VK} {x a s : Addr} {sg : List Nat} {low : Int} {n : Nat} {ks : List (List Nat)} {br : Option (List Nat)} (c : Wd K mg) (h : PaperAt K H x a sg low n s ks br) (q : Q (.bl !br.isNone) H) : rIsi K [.ref x, .ref (gA K "PageCertificate")] H Q := by
  cases br with
  | some p => exact isi_ok (PcAt.tyx c h) c.is_PageCertificate_PageCertificate q
  | none => exact isi_ok (LcAt.tyx c h) c.is_ListCertificate_PageCertificate q
theorem PaperAt.mono {K : Frag} {H H' : Hp} {x a s : Addr} {sg : List Nat} {low : Int} {n : Nat} {ks : List (List Nat)} {br : Option (List Nat)} (e : Ex H H') (h : PaperAt K H x a sg low n s ks br) : PaperAt K H' x a sg low n s ks br := by
  cases br with
  | some p => exact PcAt.mono e h
  | none => exact LcAt.mono e h
theorem den_join {K : Frag} {H : Hp} {s : Addr} {t : Tr} {den : Bool} {E : XK} {R : V → Hp → Prop} (h : SayAt K H s t) (q : ∀ s' H', Ex H H' → SayAt K H' s' (denT den t) → R (.ref s') H') : if den = true then rOwn1 (gA K "Saying") (sp_Saying_invert K) E (.ref s) H (fun x H1 => R x H1) else R (.ref s) H := by
  cases den with
  | true => exact say1 h fun p H' e h' => q p H' e h'
  | false => exact q s H (Evl.Ex.refl _) h
def wordsOfB (b : Bool) : Str := if b = true then "claim: for all" else "claim: broken"
theorem words_ix {K : Frag} {H : Hp} {Q : VK} {p : Addr} {b : Bool} (h : H p = some (.lst [.str "claim: broken", .str "claim: for all"])) (q : Q (.str (wordsOfB b)) H) : rIxL K (.ref p) (.int (if b = true then 1 else 0)) H Q := by
  cases b with
  | true => exact ixL_v 1 (Evl.sq_of h) rfl rfl q
  | false => exact ixL_v 0 (Evl.sq_of h) rfl rfl q
/-- what the kinds' one question tells -/
structure Told (ws : List (List Nat)) (sg : List Nat) (low : Int) (n : Nat) (t : Tr) (hd : Bool) (br : Option (List Nat)) : Prop where
  h : holdsB ws sg low n t = hd
  e : br.isNone = hd
  b : ∀ p, br = some p → pcJudge ws sg low n t p = true ∧ (∀ ch ∈ p, ch ∈ sg) ∧ p.length ≤ 15
theorem told {ws : List (List Nat)} {sg : List Nat} {low : Int} {n : Nat} {t : Tr} (hn : n ≤ 3) : Told ws sg low n t (holdsB ws sg low n t) (brkOf (kindsOf ws sg low n) (pagesOf ws sg low n) t low) := by
  cases h : holdsB ws sg low n t with
  | true => exact ⟨h, by rw [brk_holds h]; rfl, fun p hp => by rw [brk_holds h] at hp; cases hp⟩
  | false =>
    obtain ⟨p, e, h1, h2, h3⟩ := brk_breaks hn h
    refine ⟨h, by rw [e]; rfl, fun q hq => ?_⟩
    rw [e] at hq
    cases hq
    exact ⟨h1, h2, h3⟩
theorem PaperAt.shows {K : Frag} {H : Hp} {Q : VK} {E : XK} {x a s : Addr} {ws : List (List Nat)} {sg : List Nat} {low : Int} {n : Nat} {t : Tr} {hd : Bool} {br : Option (List Nat)} (h : PaperAt K H x a sg low n s (kindsOf ws sg low n) br) (T : Told ws sg low n t hd br) (ok : QOk K H a s ws sg low n t) (q : ∀ H', Ex H H' → Q (.bl true) H') : sp_law_shows K [.ref x, .bl true, .str (wordsOfB hd)] H Q E := by
  cases br with
  | some p =>
    obtain ⟨h1, h2, h3⟩ := T.b p rfl
    have e : hd = false := T.e.symm
    subst e
    refine .inl ⟨x, a, s, ws, sg, p, low, n, t, ?_, h, ok, by omega, q⟩
    rw [h1]
    rfl
  | none =>
    have e : hd = true := T.e.symm
    subst e
    have kk := kinds_ok (ws := ws) (sg := sg) (b := low) ok.ok.n3
    refine .inr ⟨x, a, s, ws, sg, low, n, t, kindsOf ws sg low n, ?_, h, ok, by have := kk.le ok.ok.n3; simp only at this; omega, kk.tx, q⟩
    rw [lc_holds ok.ok.n3 T.h]
    rfl
theorem any_pc {ws : List (List Nat)} {sg : List Nat} {low : Int} {n : Nat} {t : Tr} {hd : Bool} {br : Option (List Nat)} (hn : n ≤ 3) (T : Told ws sg low n t hd br) {ps : List (List Nat)} (h : ∀ p, br = some p → p ∈ ps) : ps.any (pcJudge ws sg low n t) = !hd := by
  cases br with
  | some p =>
    have e : hd = false := T.e.symm
    rw [e, Bool.not_false, List.any_eq_true]
    exact ⟨p, h p rfl, (T.b p rfl).1⟩
  | none =>
    have e : hd = true := T.e.symm
    have h2 := T.h
    rw [e] at h2
    rw [e, Bool.not_true, List.any_eq_false]
    intro p _
    rw [pc_holds hn h2]
    exact Bool.false_ne_true
theorem any_lc {ws : List (List Nat)} {sg : List Nat} {low : Int} {n : Nat} {t : Tr} {hd : Bool} (hn : n ≤ 3) (h : holdsB ws sg low n t = hd) {tss : List (List (List Nat))} (hk : kindsOf ws sg low n ∈ tss) : tss.any (lcJudge ws sg low n t) = hd := by
  cases hd with
  | true =>
    rw [List.any_eq_true]
    exact ⟨_, hk, lc_holds hn h⟩
  | false =>
    rw [List.any_eq_false]
    intro ts _
    rw [lc_breaks hn h]
    exact Bool.false_ne_true
/-! lists of lists of texts -/
def LsR (n : Nat) (H : Hp) (ts : List (List Nat)) (a : Addr) : Prop := H a = some (.lst (sv ts)) ∧ ts.length ≤ 200 ∧ ∀ t ∈ ts, t ∈ allT n
theorem LsR.monoD {n : Nat} : MonoD (LsR n) := fun H H' x a e ⟨h1, h2⟩ => ⟨e _ _ h1 isSt_sv, h2⟩
theorem LsR.push {n : Nat} {H : Hp} {p q : Addr} {xs : List (List (List Nat))} {x : List (List Nat)} (h : RA (LsR n) H p xs) (hne : xs ≠ []) (hx : LsR n H x q) : ∃ vs, H p = some (.lst vs) ∧ vs.length = xs.length ∧ RA (LsR n) (upd H p (.lst (vs ++ [.ref q]))) p (xs ++ [x]) := by
  obtain ⟨ps, h1, h2, h3⟩ := h
  have nn : ∀ ts : List (List Nat), HO.lst (ps.map fun q => V.ref q.2) ≠ .lst (sv ts) := by
    intro ts e
    simp only [HO.lst.injEq] at e
    cases ps with
    | nil => exact hne (by rw [← h1]; rfl)
    | cons a r => cases ts <;> simp [sv] at e
  have keep : ∀ {o : HO} {y : List (List Nat)} {a : Addr}, LsR n H y a → LsR n (upd H p o) y a := fun ⟨e1, e2⟩ => ⟨by
    rw [upd_ne]
    · exact e1
    · rintro rfl; rw [h2] at e1; exact nn _ (Option.some.inj e1), e2⟩
  refine ⟨_, h2, by rw [List.length_map, ← h1, List.length_map], ps ++ [(x, q)], by simp [h1], by rw [upd_same]; simp, fun r hr => ?_⟩
  rcases List.mem_append.mp hr with hr | hr
  · exact keep (h3 r hr)
  · rw [List.mem_singleton] at hr
    subst hr
    exact keep hx
def eoJ (K : Frag) : TS := tSeq (tAsg (tCall (sp_law_page_judged K) [] E0 (tCons (tVar 1) (tCons (tVar 14) (tCons (tVar 2) (tCons (tVar 3) (tCons (tVar 17) tNil)))))) (gName 19))
  (tSeq (tIfS (tNot (tB (tOp (rIxL K) (tVar 19) (tC (V.int 0))))) (tRet (tC V.non)) tNext) (tAsg (tOrV (tVar 18) (tOp (rIxL K) (tVar 19) (tC (V.int 1)))) (gName 18)))
def eoT (K : Frag) : TS := tSeq (tAsg (tLst (tCons (tCB (rListV K) (tCons (tVar 10) tNil)) tNil)) (gName 20))
  (tSeq (tFor (iRng1 (tCons (tC (V.int 3)) tNil)) (gName 21) (tDrop (tBM K "list" rAppend (tVar 20) (tCons (tCall (sp_law_drawn_list K) [] E0 (tCons (tVar 0) (tCons (tVar 21) (tCons (tVar 10) (tCons (tVar 11) (tCons (tVar 9) tNil)))))) tNil))))
  (tSeq (tAsg (tC (V.bl false)) (gName 22))
  (tSeq (tFor (iList K (tVar 20)) (gName 23) (tSeq (tAsg (tCall (sp_law_list_judged K) [] E0 (tCons (tVar 1) (tCons (tVar 14) (tCons (tVar 2) (tCons (tVar 3) (tCons (tVar 23) tNil)))))) (gName 19))
    (tSeq (tIfS (tNot (tB (tOp (rIxL K) (tVar 19) (tC (V.int 0))))) (tRet (tC V.non)) tNext) (tAsg (tOrV (tVar 22) (tOp (rIxL K) (tVar 19) (tC (V.int 1)))) (gName 22)))))
  (tSeq (tIfS (tOr (tTest (tOp rEq (tVar 18) (tVar 13))) (tTest (tOp rNe (tVar 22) (tVar 13)))) (tRet (tC V.non)) tNext) (tRet (tVar 13))))))
theorem any_take {α : Type} {xs : List α} {d : α} {f : α → Bool} {i : Nat} (h : i < xs.length) : (xs.take (i + 1)).any f = ((xs.take i).any f || f (xs.getD i d)) := by
  have e : xs.take (i + 1) = xs.take i ++ [xs.getD i d] := by
    rw [List.take_add_one, List.getElem?_eq_getElem h, List.getD_eq_getElem?_getD, List.getElem?_eq_getElem h]
    rfl
  rw [e, List.any_append, List.any_cons, List.any_nil, Bool.or_false]
theorem eo_tail {K : Frag} {st ce wd cal tr s1 x sa ka gd D : Addr} {ws : List (List Nat)} {ls : List Nat} {sets : List (List Int)} {sg : List Nat} {low : Int} {n m : Nat} {rows : List (List Int)} {den hd : Bool} {br : Option (List Nat)} {ps good : List (List Nat)} {y0 z0 : Option V} {H : Hp} {Q : VK}
    (hst : StAt H st ce) (hw : WorldAt K H wd cal ws ls sets sg low n) (g : GW ws ls sets sg low n) (hA : AskAt K H s1 tr m rows den low n) (hD : H D = some (.lst (sv ps))) (hpl : ps.length ≤ 4) (hps : ∀ p ∈ ps, (∀ ch ∈ p, ch ∈ ls) ∧ p.length ≤ 24)
    (hka : H ka = some (.lst (sv (kindsOf ws sg low n)))) (hgd : H gd = some (.lst (sv good))) (hgl : good.length ≤ 100) (hgm : ∀ t ∈ good, t ∈ allT n) (T : Told ws sg low n (denT den (lawTr m rows)) hd br) (hbr : ∀ p, br = some p → p ∈ ps)
    (hQ : ∀ H', ExD H H' → StAt H' st ce → Q (.bl hd) H') :
    Loop (Itl K D) (gName 17) (eoJ K) { nx := eoT K { nx := fun _ H' => Q .non H', rt := Q }, rt := Q } [some (.ref st), some (.ref wd), some (.ref tr), some (.bl den), some (.ref cal), some (.str (tx ls)), some (.ref sa), some (.str (tx sg)), some (.int low), some (.int (n : Nat)), some (.ref ka), some (.ref gd), y0, some (.bl hd), some (.ref s1), some (.ref x), some (.ref D), z0, some (.bl false), none, none, none, none, none, none] H := by
  have hn3 := g.ok.n3
  have kk := kinds_ok (ws := ws) (sg := sg) (b := low) hn3
  have kle := kk.le hn3
  have ktx := kk.tx
  have kpos := kk.pos
  simp only at kle ktx kpos
  refine lp_list (xs := sv ps) (fun i σ' H' => ∃ z z2, σ' = [some (.ref st), some (.ref wd), some (.ref tr), some (.bl den), some (.ref cal), some (.str (tx ls)), some (.ref sa), some (.str (tx sg)), some (.int low), some (.int (n : Nat)), some (.ref ka), some (.ref gd), y0, some (.bl hd), some (.ref s1), some (.ref x), some (.ref D), z, some (.bl ((ps.take i).any (pcJudge ws sg low n (denT den (lawTr m rows))))), z2, none, none, none, none, none] ∧ Ex H H')
    ⟨_, _, rfl, Evl.Ex.refl _⟩ (fun i σ' H' _ ⟨_, _, _, e⟩ => Evl.sq_of (e _ _ hD)) ?_ ?_
  · rintro i v σ' H1 hi hv ⟨z, z2, rfl, hx1⟩
    obtain ⟨rfl, hi2, hm2⟩ := sv_at hi hv
    have hp := hps _ hm2
    unfold eoJ
    walk_at "wp"
    refine ⟨wd, cal, s1, tr, ws, ls, sets, sg, low, n, m, rows, den, ps.getD i [], rfl, hw.mono hx1, g, hA.mono hx1, hp.1, by omega, fun q H2 hx2 hq => ?_⟩
    walk_at "wp"
    refine ixL_v 0 (Evl.sq_of hq) rfl rfl ?_
    walk_at "wp"
    refine orV_ok (x := (ps.take i).any (pcJudge ws sg low n (denT den (lawTr m rows)))) (y := pcJudge ws sg low n (denT den (lawTr m rows)) (ps.getD i [])) (fun Q q => ⟨_, rfl, q⟩) (fun Q q3 => ⟨_, rfl, ixL_v 1 (Evl.sq_of hq) rfl rfl q3⟩) ?_
    refine ⟨?_, hx1.trans hx2⟩
    rw [any_take (d := []) hi2]
  · rintro σ' H1 ⟨z, z2, rfl, hx1⟩
    rw [sv_len, List.take_length, any_pc hn3 T hbr]
    have hka1 := hx1 _ _ hka
    have hgd1 := hx1 _ _ hgd
    have hst1 := hst.mono hx1
    unfold eoT
    walk_at "wp"
    refine list_l (Evl.sq_of hka1) fun l1 hl1 => ?_
    have hx2 := Evl.Ex.new (o := .lst (sv (kindsOf ws sg low n))) hl1
    have h1 : upd H1 l1 (.lst (sv (kindsOf ws sg low n))) l1 = _ := upd_same
    revert hx2 h1
    generalize upd H1 l1 (.lst (sv (kindsOf ws sg low n))) = H2
    intro hx2 h1
    refine ⟨szI (by show 1 ≤ 100000; omega), fun L hL => ?_⟩
    have hx3 := hx2.trans (Evl.Ex.new (o := .lst [.ref l1]) hL)
    have hL1 : H1 L = none := Evl.fresh_back hx2 hL
    have hR : RA (LsR n) (upd H2 L (.lst [.ref l1])) L [kindsOf ws sg low n] := ⟨[(_, l1)], rfl, upd_same, fun q hq => by rw [List.mem_singleton] at hq; subst hq; exact ⟨Evl.Ex.new hL _ _ h1, by simp only; omega, ktx⟩⟩
    revert hx3 hR
    generalize upd H2 L (.lst [.ref l1]) = H3
    intro hx3 hR
    clear hx2 h1 hL hl1
    walk_at "om"
    refine lp_rng (fun i σ' H' => ∃ y2, ∃ tss : List (List (List Nat)), σ' = [some (.ref st), some (.ref wd), some (.ref tr), some (.bl den), some (.ref cal), some (.str (tx ls)), some (.ref sa), some (.str (tx sg)), some (.int low), some (.int (n : Nat)), some (.ref ka), some (.ref gd), y0, some (.bl hd), some (.ref s1), some (.ref x), some (.ref D), z, some (.bl !hd), z2, some (.ref L), y2, none, none, none] ∧ ExD H1 H' ∧ StAt H' st ce ∧ RA (LsR n) H' L tss ∧ tss.length = i + 1 ∧ kindsOf ws sg low n ∈ tss)
      ⟨_, _, rfl, .of hx3, hst1.mono hx3, hR, rfl, List.mem_cons_self⟩ ?_ ?_
    · rintro i σ' H4 hi ⟨y2, tss, rfl, e4, s4, hR4, htl, htk⟩
      have hi : i < 3 := hi
      obtain ⟨vs, _, v2, v3, _⟩ := hR4.seq (K := K)
      walk_at "wp"
      refine ⟨tyL v2, st, ce, ka, gd, i, n, kindsOf ws sg low n, good, rfl, s4, e4 _ _ hka1 isSt_sv, e4 _ _ hgd1 isSt_sv, kpos, by omega, hgl, hn3, ktx, hgm, fun p ts H5 e5 s5 hp5 hts1 hts2 => ?_⟩
      obtain ⟨us, u1, u2, u3⟩ := LsR.push (hR4.monoD LsR.monoD e5) (by rintro rfl; cases htk) ⟨hp5, hts1, hts2⟩
      refine app_ok u1 (by omega) ?_
      refine ⟨(e4.trans e5).mut hL1, s5.mut (hst1.ne hL1), tss ++ [ts], u3, by simp [htl], List.mem_append_left _ htk⟩
    · rintro σ' H4 ⟨y2, tss, rfl, e4, s4, hR4, htl, htk⟩
      have htl : tss.length = 4 := htl
      obtain ⟨vs, v1, v2, v3, v4⟩ := hR4.seq (K := K)
      have hw4 := (hw.mono hx1).monoD e4
      have hA4 := (hA.mono hx1).monoD e4
      walk_at "wp"
      refine ⟨⟨_, v1⟩, ?_⟩
      refine lp_list (xs := vs) (fun i σ' H' => ∃ y3 y4, σ' = [some (.ref st), some (.ref wd), some (.ref tr), some (.bl den), some (.ref cal), some (.str (tx ls)), some (.ref sa), some (.str (tx sg)), some (.int low), some (.int (n : Nat)), some (.ref ka), some (.ref gd), y0, some (.bl hd), some (.ref s1), some (.ref x), some (.ref D), z, some (.bl !hd), y3, some (.ref L), y2, some (.bl ((tss.take i).any (lcJudge ws sg low n (denT den (lawTr m rows))))), y4, none] ∧ Ex H4 H')
        ⟨_, _, rfl, Evl.Ex.refl _⟩ (fun i σ' H' _ ⟨_, _, _, e⟩ => Evl.ex_l e v1) ?_ ?_
      · rintro i v σ' H5 hi hv ⟨y3, y4, rfl, hx5⟩
        obtain ⟨ts, q, t1, rfl, t2⟩ := v4 i v hv
        obtain ⟨t3, t4, t5⟩ := LsR.monoD.to _ _ _ _ hx5 t2
        have hi2 : i < tss.length := by rw [← v3]; exact hi
        have hts : tss.getD i [] = ts := by rw [List.getD_eq_getElem?_getD, t1]; rfl
        walk_at "wp"
        refine ⟨wd, cal, s1, tr, q, ws, ls, sets, sg, low, n, m, rows, den, ts, rfl, hw4.mono hx5, g, hA4.mono hx5, t3, t4, t5, fun q2 H6 hx6 hq => ?_⟩
        walk_at "wp"
        refine ixL_v 0 (Evl.sq_of hq) rfl rfl ?_
        walk_at "wp"
        refine orV_ok (x := (tss.take i).any (lcJudge ws sg low n (denT den (lawTr m rows)))) (y := lcJudge ws sg low n (denT den (lawTr m rows)) ts) (fun Q q => ⟨_, rfl, q⟩) (fun Q q3 => ⟨_, rfl, ixL_v 1 (Evl.sq_of hq) rfl rfl q3⟩) ?_
        refine ⟨?_, hx5.trans hx6⟩
        rw [any_take (d := []) hi2, hts]
      · rintro σ' H5 ⟨y3, y4, rfl, hx5⟩
        rw [v3, List.take_length, any_lc hn3 T.h htk]
        walk_at "wp"
        have f1 : ((!hd) = hd) = False := by cases hd <;> simp
        simp only [f1, decide_false, Bool.false_eq_true, if_false]
        exact hQ _ ((ExD.of hx1).trans (e4.then hx5)) (s4.mono hx5)
def sp_law_either_or (K : Frag) : Sp := fun vs H Q _ => ∃ (st ce wd cal tr : Addr) (ws : List (List Nat)) (ls : List Nat) (sets : List (List Int)) (sg : List Nat) (low : Int) (n m : Nat) (rows : List (List Int)) (den : Bool), vs = [.ref st, .ref wd, .ref tr, .bl den] ∧ StAt H st ce ∧ WorldAt K H wd cal ws ls sets sg low n ∧ GW ws ls sets sg low n ∧ LT H tr m rows ∧ m < 8 ∧ rows.length = 3 ∧ (∀ r ∈ rows, okRow low n r) ∧
  ∀ H', ExD H H' → StAt H' st ce → Q (.bl (holdsB ws sg low n (denT den (lawTr m rows)))) H'
theorem sc_law_either_or : FnScope ["_law_state", "_law_world", "_law_tree_here", "_law_denied", "_law_calendar", "_law_letters", "_law_sets", "_law_signs", "_law_low", "_law_size", "_law_kinds", "_law_good", "_law_text", "_law_holds", "_law_saying_here", "_law_paper", "_law_pages", "_law_page", "_law_broken", "_law_told", "_law_lists", "_law_turn", "_law_shown", "_law_texts", "_law_char"] ["_law_state", "_law_world", "_law_tree_here", "_law_denied"] (defScope s_law_either_or) := ⟨rfl, rfl, rfl, by decide +kernel, rfl, by decide +kernel, by decide +kernel⟩
theorem b_law_either_or {K : Frag} {mg : Str → Option Value} (c : Wd K mg) : Binds K (fdOf K (gA K "_law_either_or")) ["_law_state", "_law_world", "_law_tree_here", "_law_denied"] [] := c.f_law_either_or.binds (fun _ _ _ _ _ _ us hl => match us, hl with | [_, _, _, _], _ => rfl)
theorem ok_law_either_or {P : Program} {w : World} {K : Frag} {mg : Str → Option Value} {base : Heap} (c : Wd K mg) (M : MainOk P) : FnOk P w K mg base (L2.CX P w) 11 (gA K "_law_either_or") (fdOf K (gA K "_law_either_or")) ["_law_state", "_law_world", "_law_tree_here", "_law_denied"] (sp_law_either_or K) := by
  refine c.f_law_either_or.okX sc_law_either_or (fun vs H Q E h => ?_) (fun cdv A outer s H vs Q E hr h => ⟨_, PSs.nox (pss_cons (ps_asg (pe_slice sl_list (pv 1) po_none (po_some pe_int)) (pg_lst (n := 6) rfl (pgs_cons (pg_name (i := 4) sc_law_either_or.nd rfl (Or.inl rfl)) (pgs_cons (pg_name (i := 5) sc_law_either_or.nd rfl (Or.inr rfl)) (pgs_cons (pg_name (i := 6) sc_law_either_or.nd rfl (Or.inl rfl)) (pgs_cons (pg_name (i := 7) sc_law_either_or.nd rfl (Or.inr rfl)) (pgs_cons (pg_name (i := 8) sc_law_either_or.nd rfl (Or.inl rfl)) (pgs_cons (pg_name (i := 9) sc_law_either_or.nd rfl (Or.inl rfl)) pgs_nil))))))))
      (pss_cons (ps_set (i := 10) sc_law_either_or.nd rfl (Or.inl rfl) (pe_ix ix_list (pv 1) pe_int (fun _ _ => rfl)))
      (pss_cons (ps_set (i := 11) sc_law_either_or.nd rfl (Or.inl rfl) (pe_lst pa_nil))
      (pss_cons (ps_for PassesOwn.never rfl (pi_list (pv 10)) (pg_name (i := 12) sc_law_either_or.nd rfl (Or.inl rfl)) (pss_one (ps_if (pt_cmpR op_ne (pe_call (ok_law_says c) (hr.mono (by decide)) rfl c.g_law_says c.f_law_says.kp (b_law_says c) .nil passL (pa_cons (pv 2) (pa_cons (pv 12) (pa_cons (pv 8) pa_nil)))) (pv 3) (nomark _)) (pss_one (ps_expr (pe_bm PySem.F.plainAttrs_list PySem.F.slot_list_append PySem.F.type_list_append mt_append (pv 11) (pa_cons (pv 12) pa_nil)))) pss_nil)))
      (pss_cons (ps_set (i := 13) sc_law_either_or.nd rfl (Or.inl rfl) (pe_cmpR op_eq (pe_callB call_lenV (by rfl) c.z_len (by decide +kernel) (pa_cons (pv 11) pa_nil)) (pe_callB call_lenV (by rfl) c.z_len (by decide +kernel) (pa_cons (pv 10) pa_nil)) (nomark _)))
      (pss_cons (ps_set (i := 14) sc_law_either_or.nd rfl (Or.inl rfl) (pe_call (ok_law_saying c) (hr.mono (by decide)) rfl c.g_law_saying c.f_law_saying.kp (b_law_saying c) .nil passL (pa_cons (pv 2) pa_nil)))
      (pss_cons (ps_if (pt_val (pv 3)) (pss_one (ps_set (i := 14) sc_law_either_or.nd rfl (Or.inl rfl) (pe_un (un_ownInvM (ok_Saying_invert c) (hr.mono (by decide)) (b_Saying_invert c) passL c.m_Saying_invert) (pv 14)))) pss_nil)
      (pss_cons (ps_set (i := 15) sc_law_either_or.nd rfl (Or.inl rfl) (pe_call (ok_decide c) (hr.mono (by decide)) rfl c.g_decide c.f_decide.kp (b_decide c) .nil passL (pa_cons (pv 4) (pa_cons (pv 7) (pa_cons (pv 8) (pa_cons (pe_op op_add (pv 8) (pv 9)) (pa_cons (pv 14) pa_nil)))))))
      (pss_cons (ps_if (pt_cmpR op_ne (pe_callB call_isi (by rfl) c.z_isinstance (by decide +kernel) (pa_cons (pv 15) (pa_cons (pe_cls rfl c.g_ListCertificate) pa_nil))) (pv 13) (nomark _)) (pss_one (ps_ret pe_non)) pss_nil)
      (pss_cons (ps_if (pt_cmpR op_eq (pe_callB call_isi (by rfl) c.z_isinstance (by decide +kernel) (pa_cons (pv 15) (pa_cons (pe_cls rfl c.g_PageCertificate) pa_nil))) (pv 13) (nomark _)) (pss_one (ps_ret pe_non)) pss_nil)
      (pss_cons (ps_if (pt_not (pt_val (pe_call (ok_law_shows c M) (hr.mono (by decide)) rfl c.g_law_shows c.f_law_shows.kp (b_law_shows c) .nil passL (pa_cons (pv 15) (pa_cons pe_bl (pa_cons (pe_ix ix_list (pe_lst (pa_cons pe_str (pa_cons pe_str pa_nil))) (pe_callTy call_int1 (by rfl) c.z_int (by decide +kernel) (pa_cons (pv 13) pa_nil)) (fun _ _ => rfl)) pa_nil)))))) (pss_one (ps_ret pe_non)) pss_nil)
      (pss_cons (ps_setLc (i := 16) (own := [("_law_turn", 21)]) (g := gName 21) rfl sc_law_either_or.nd rfl rfl (sw_true rfl rfl rfl (by decide +kernel)) (pi_range1 rfl c.z_range (pa_cons pe_int pa_nil)) (blkOk_by (own := [("_law_turn", 21)]) (N := ["_law_state", "_law_world", "_law_tree_here", "_law_denied", "_law_calendar", "_law_letters", "_law_sets", "_law_signs", "_law_low", "_law_size", "_law_kinds", "_law_good", "_law_text", "_law_holds", "_law_saying_here", "_law_paper", "_law_pages", "_law_page", "_law_broken", "_law_told", "_law_lists", "_law_turn", "_law_shown", "_law_texts", "_law_char"]) (sc := defScope s_law_either_or) (by decide +kernel)) (fun _ _ _ _ _ => (pg_name (i := 21) sc_law_either_or.nd rfl (Or.inl rfl))) (fun _ _ _ _ _ => pts_nil) (fun _ _ _ _ _ => (pe_call (ok_law_drawn_page c) (hr.mono (by decide)) rfl c.g_law_drawn_page c.f_law_drawn_page.kp (b_law_drawn_page c) .nil passL (pa_cons (pv 0) (pa_cons (pv 5) (pa_cons (pv 7) pa_nil))))))
      (pss_cons (ps_set (i := 17) sc_law_either_or.nd rfl (Or.inl rfl) (pe_call (ok_breaker c) (hr.mono (by decide)) rfl c.g_breaker c.f_breaker.kp (b_breaker c) .nil passL (pa_cons (pv 4) (pa_cons (pv 7) (pa_cons (pv 8) (pa_cons (pe_op op_add (pv 8) (pv 9)) (pa_cons (pv 14) pa_nil)))))))
      (pss_cons (ps_if (PW.pt (pw_and (pt_val (pv 13)) (pw_and1 (pt_cmpR op_notN1 (pv 17) pe_non (nomark _))))) (pss_one (ps_ret pe_non)) pss_nil)
      (pss_cons (ps_if (pt_not (pt_val (pv 13))) (pss_cons (ps_if (pt_not (pt_val (pe_callB call_isi (by rfl) c.z_isinstance (by decide +kernel) (pa_cons (pv 17) (pa_cons (pe_bltn (v := .ty "str") rfl c.z_str (by decide +kernel) rfl) pa_nil))))) (pss_one (ps_ret pe_non)) pss_nil)
      (pss_cons (ps_if (pt_cmpR (op_neD (hu64 hr)) (pe_lc (own := [("_law_char", 24)]) (g := gName 24) rfl sc_law_either_or.nd (pi_str (pv 17)) (blkOk_by (own := [("_law_char", 24)]) (N := ["_law_state", "_law_world", "_law_tree_here", "_law_denied", "_law_calendar", "_law_letters", "_law_sets", "_law_signs", "_law_low", "_law_size", "_law_kinds", "_law_good", "_law_text", "_law_holds", "_law_saying_here", "_law_paper", "_law_pages", "_law_page", "_law_broken", "_law_told", "_law_lists", "_law_turn", "_law_shown", "_law_texts", "_law_char"]) (sc := defScope s_law_either_or) (by decide +kernel)) (fun _ _ _ _ _ => (pg_name (i := 24) sc_law_either_or.nd rfl (Or.inl rfl))) (fun _ _ _ _ _ => (pts_one (pt_cmpR op_ninSg (pv 24) (pv 7) rfl))) (fun _ _ _ _ _ => (pv 24))) (pe_lst pa_nil) (nomark _)) (pss_one (ps_ret pe_non)) pss_nil)
      (pss_one (ps_expr (pe_bm PySem.F.plainAttrs_list PySem.F.slot_list_append PySem.F.type_list_append mt_append (pv 16) (pa_cons (pv 17) pa_nil)))))) pss_nil)
      (pss_cons (ps_set (i := 18) sc_law_either_or.nd rfl (Or.inl rfl) pe_bl)
      (pss_cons (ps_for PassesOwn.never rfl (pi_list (pv 16)) (pg_name (i := 17) sc_law_either_or.nd rfl (Or.inl rfl)) (pss_cons (ps_set (i := 19) sc_law_either_or.nd rfl (Or.inl rfl) (pe_call (ok_law_page_judged c M) (hr.mono (by decide)) rfl c.g_law_page_judged c.f_law_page_judged.kp (b_law_page_judged c) .nil passL (pa_cons (pv 1) (pa_cons (pv 14) (pa_cons (pv 2) (pa_cons (pv 3) (pa_cons (pv 17) pa_nil)))))))
      (pss_cons (ps_if (pt_not (pt_val (pe_ix ix_list (pv 19) pe_int (fun _ _ => rfl)))) (pss_one (ps_ret pe_non)) pss_nil)
      (pss_one (ps_set (i := 18) sc_law_either_or.nd rfl (Or.inl rfl) (pe_or (pv 18) (pe_one (pe_ix ix_list (pv 19) pe_int (fun _ _ => rfl)))))))))
      (pss_cons (ps_set (i := 20) sc_law_either_or.nd rfl (Or.inl rfl) (pe_lst (pa_cons (pe_callTy call_listV (by rfl) c.z_list (by decide +kernel) (pa_cons (pv 10) pa_nil)) pa_nil)))
      (pss_cons (ps_for PassesOwn.never rfl (pi_range1 rfl c.z_range (pa_cons pe_int pa_nil)) (pg_name (i := 21) sc_law_either_or.nd rfl (Or.inl rfl)) (pss_one (ps_expr (pe_bm PySem.F.plainAttrs_list PySem.F.slot_list_append PySem.F.type_list_append mt_append (pv 20) (pa_cons (pe_call (ok_law_drawn_list c) (hr.mono (by decide)) rfl c.g_law_drawn_list c.f_law_drawn_list.kp (b_law_drawn_list c) .nil passL (pa_cons (pv 0) (pa_cons (pv 21) (pa_cons (pv 10) (pa_cons (pv 11) (pa_cons (pv 9) pa_nil)))))) pa_nil)))))
      (pss_cons (ps_set (i := 22) sc_law_either_or.nd rfl (Or.inl rfl) pe_bl)
      (pss_cons (ps_for PassesOwn.never rfl (pi_list (pv 20)) (pg_name (i := 23) sc_law_either_or.nd rfl (Or.inl rfl)) (pss_cons (ps_set (i := 19) sc_law_either_or.nd rfl (Or.inl rfl) (pe_call (ok_law_list_judged c M) (hr.mono (by decide)) rfl c.g_law_list_judged c.f_law_list_judged.kp (b_law_list_judged c) .nil passL (pa_cons (pv 1) (pa_cons (pv 14) (pa_cons (pv 2) (pa_cons (pv 3) (pa_cons (pv 23) pa_nil)))))))
      (pss_cons (ps_if (pt_not (pt_val (pe_ix ix_list (pv 19) pe_int (fun _ _ => rfl)))) (pss_one (ps_ret pe_non)) pss_nil)
      (pss_one (ps_set (i := 22) sc_law_either_or.nd rfl (Or.inl rfl) (pe_or (pv 22) (pe_one (pe_ix ix_list (pv 19) pe_int (fun _ _ => rfl)))))))))
      (pss_cons (ps_if (PW.pt (pw_or (pt_cmpR op_eq (pv 18) (pv 13) (nomark _)) (pw_or1 (pt_cmpR op_ne (pv 22) (pv 13) (nomark _))))) (pss_one (ps_ret pe_non)) pss_nil)
      (pss_one (ps_ret (pv 13))))))))))))))))))))))))), ?_⟩)
  · obtain ⟨st, ce, wd, cal, tr, ws, ls, sets, sg, low, n, m, rows, den, rfl, hst, hw, g, hT, hm, hl3, hrw, hQ⟩ := h
    rfl
  obtain ⟨st, ce, wd, cal, tr, ws, ls, sets, sg, low, n, m, rows, den, rfl, hst, hw, g, hT, hm, hl3, hrw, hQ⟩ := h
  obtain ⟨sa, ca, ka, w1, w2, w3, w4, w5⟩ := id hw
  have hn3 := g.ok.n3
  have hsgl := g.ok.sgl
  have kk := kinds_ok (ws := ws) (sg := sg) (b := low) hn3
  have kle := kk.le hn3
  have ktx := kk.tx
  simp only at kle ktx
  have kln : ∀ t ∈ kindsOf ws sg low n, t.length = n + 1 := fun t h => (allT_mem (ktx t h)).2
  walk_at "wp"
  refine ⟨wd, _, rfl, Evl.sq_of w1, fun q0 hq0 => ?_⟩
  rw [cutV8]
  have hx1 := Evl.Ex.new (o := .lst [.ref cal, .str (tx ls), .ref sa, .str (tx sg), .int low, .int (n : Nat)]) hq0
  have hq1 : upd H q0 (.lst [.ref cal, .str (tx ls), .ref sa, .str (tx sg), .int low, .int (n : Nat)]) q0 = _ := upd_same
  revert hx1 hq1
  generalize upd H q0 (.lst [.ref cal, .str (tx ls), .ref sa, .str (tx sg), .int low, .int (n : Nat)]) = H1
  intro hx1 hq1
  walk_at "wp"
  refine ⟨_, Evl.sq_of hq1, rfl, ?_⟩
  walk_at "wp"
  refine ixL_v 7 (Evl.sq_of (hx1 _ _ w1)) rfl rfl ?_
  walk_at "wp"
  refine ⟨szI (by show 0 ≤ 100000; omega), fun gd hgd => ?_⟩
  have hgd0 : H gd = none := Evl.fresh_back hx1 hgd
  have hx2 := hx1.trans (Evl.Ex.new (o := .lst []) hgd)
  have hgd2 : upd H1 gd (.lst []) gd = some (.lst (sv [])) := upd_same
  revert hx2 hgd2
  generalize upd H1 gd (.lst []) = H2
  intro hx2 hgd2
  refine ⟨⟨_, Evl.sq_of (hx2 _ _ w5)⟩, ?_⟩
  refine lp_list (fun i σ' H' => ∃ y, σ' = [some (.ref st), some (.ref wd), some (.ref tr), some (.bl den), some (.ref cal), some (.str (tx ls)), some (.ref sa), some (.str (tx sg)), some (.int low), some (.int n), some (.ref ka), some (.ref gd), y, none, none, none, none, none, none, none, none, none, none, none, none] ∧ Ex H H' ∧
    H' gd = some (.lst (sv (((kindsOf ws sg low n).take i).filter fun t => lawSays m rows t low != den)))) ⟨_, rfl, hx2, by rw [List.take_zero]; exact hgd2⟩ (fun i σ' H' _ ⟨_, _, e, _⟩ => Evl.sq_of (e _ _ w5)) ?_ ?_
  · rintro i v σ' H3 hi hv ⟨y, rfl, hx3, hg3⟩
    obtain ⟨rfl, hi2, hmem⟩ := sv_at hi hv
    have htk : (kindsOf ws sg low n).take (i + 1) = (kindsOf ws sg low n).take i ++ [(kindsOf ws sg low n).getD i []] := by
      rw [List.take_add_one, List.getElem?_eq_getElem hi2, List.getD_eq_getElem?_getD, List.getElem?_eq_getElem hi2]
      rfl
    have hfl := List.length_filter_le (fun t => lawSays m rows t low != den) ((kindsOf ws sg low n).take i)
    rw [List.length_take] at hfl
    rw [htk, List.filter_append]
    revert hg3 hfl
    generalize ((kindsOf ws sg low n).take i).filter (fun t => lawSays m rows t low != den) = acc
    intro hg3 hfl
    walk_at "wp"
    refine ⟨tr, m, rows, (kindsOf ws sg low n).getD i [], low, n, rfl, hT.monoD (.of hx3), hm, hl3, hrw, by rw [kln _ hmem]; omega, fun H4 hx4 => ?_⟩
    have hg4 := hx4 _ _ hg3
    have hx34 := hx3.trans hx4
    walk_at "wp"
    split <;> rename_i h
    · refine ⟨tyL hg4, app_ok hg4 (by rw [sv_len]; omega) ?_⟩
      refine ⟨hx34.mut hgd0, ?_⟩
      rw [upd_same, List.filter_cons_of_pos (by simpa using h)]
      simp [sv]
    · refine ⟨hx34, ?_⟩
      rw [hg4, List.filter_cons_of_neg (by simpa using h)]
      simp
  · rintro σ' H3 ⟨y, rfl, hx3, hg3⟩
    rw [sv_len, List.take_length] at hg3
    have hw3 := hw.mono hx3
    have w5' := hx3 _ _ w5
    have hT3 := hT.monoD (.of hx3)
    walk_at "wp"
    refine len_l (Evl.sq_of hg3) rfl (len_l (Evl.sq_of w5') rfl ?_)
    rw [ap_eqI, sv_len, sv_len, filter_all, holds_law hn3 hm hl3 hrw]
    have hgl := List.length_filter_le (fun t => lawSays m rows t low != den) (kindsOf ws sg low n)
    have hgm : ∀ t ∈ (kindsOf ws sg low n).filter fun t => lawSays m rows t low != den, t ∈ allT n := fun t h => ktx t (List.mem_filter.mp h).1
    revert hg3 hgl hgm
    generalize (kindsOf ws sg low n).filter (fun t => lawSays m rows t low != den) = good
    intro hg3 hgl hgm
    have hTold := told (ws := ws) (sg := sg) (low := low) (t := denT den (lawTr m rows)) hn3
    revert hQ hTold
    generalize holdsB ws sg low n (denT den (lawTr m rows)) = hd
    generalize hbr : brkOf (kindsOf ws sg low n) (pagesOf ws sg low n) (denT den (lawTr m rows)) low = br
    intro hQ hTold
    walk_at "wp"
    refine ⟨tr, m, rows, low, n, rfl, hT3, hm, hl3, hrw, fun s0 H4 hx4 h4 => ?_⟩
    walk_at "wp"
    refine den_join h4 fun s1 H5 hx5 h5 => ?_
    have hx35 := hx4.trans hx5
    have hx05 := hx3.trans hx35
    have ask5 : AskAt K H5 s1 tr m rows den low n := ⟨h5, hT3.monoD (.of hx35), hm, hl3, hrw⟩
    have hw5 := hw3.mono hx35
    have hcal5 := w2.mono hx05
    have q5 := ask5.q g hcal5
    have href := refusal_none q5.bad hn3 q5.out
    refine ⟨cal, ws, sg, low, low + n, s1, _, ⟨rfl, hcal5, h5, g.ok.sum, by omega, q5.sz, q5.le, fun C fs h => by rw [href] at h; cases h⟩, fun _ => ⟨n, rfl, g.ok, fun x H6 hx hx6 h6 => ?_⟩⟩
    have h6 : PaperAt K H6 x cal sg low n s1 (kindsOf ws sg low n) br := by
      rw [hbr] at h6
      cases br <;> exact h6
    refine h6.isL c ?_
    rw [hTold.e]
    walk_at "wp"
    refine h6.isP c ?_
    rw [hTold.e]
    have hnb : (!hd) = hd ↔ False := by cases hd <;> simp
    walk_at "wp"
    rw [if_neg (by cases hd <;> simp)]
    refine ⟨szI (by show 2 ≤ 100000; omega), fun wl hwl => ?_⟩
    have hx7 := Evl.Ex.new (o := .lst [.str "claim: broken", .str "claim: for all"]) hwl
    refine words_ix upd_same ?_
    revert hx7
    generalize upd H6 wl (.lst [.str "claim: broken", .str "claim: for all"]) = H7
    intro hx7
    have hx57 := hx6.trans hx7
    have h7 : PaperAt K H7 x cal sg low n s1 (kindsOf ws sg low n) br := h6.mono hx7
    refine h7.shows hTold (q5.mono hx57) fun H8 hx8 => ?_
    walk_at "wp"
    walk_at "om"
    intro D hD
    have hx08 := (hx05.trans hx57).trans hx8
    have hD0 : H D = none := Evl.fresh_back hx08 hD
    have hst8 := hst.mono hx08
    refine lc_ok walk_range (fun i H' => ExD H8 H' ∧ StAt H' st ce ∧ ∃ ps, H' D = some (.lst (sv ps)) ∧ ps.length = i ∧ ∀ p ∈ ps, (∀ ch ∈ p, ch ∈ ls) ∧ p.length ≤ 24) ⟨.of (Evl.Ex.new hD), hst8.mono (Evl.Ex.new hD), [], upd_same, rfl, fun p hp => nomatch hp⟩ (fun _ _ _ _ => trivial) ?_ ?_
    · rintro i v H9 H10 hi ⟨e9, s9, ps, hps, hpl, hpp⟩ ⟨rfl, rfl⟩
      have hi : i < 3 := hi
      refine ⟨rfl, ?_⟩
      simp only [wipe]
      walk_at "wp"
      refine ⟨ce, s9, g.l1, by have := g.l4; omega, by omega, fun p H11 e11 s11 hp1 hp2 => ?_⟩
      have hps' := e11 _ _ hps isSt_sv
      refine ⟨_, hps', szL (by rw [sv_len]; omega), (e9.trans e11).mut hD, s11.mut (hst8.ne hD), ps ++ [p], by rw [upd_same]; simp [sv], by simp [hpl], fun q hq => ?_⟩
      rcases List.mem_append.mp hq with hq | hq
      · exact hpp q hq
      · rw [List.mem_singleton] at hq
        subst hq
        exact ⟨fun ch hc => (hp2 ch hc).elim id (g.sub ch), hp1⟩
    · rintro H9 ⟨e9, s9, ps, hps, hpl, hpp⟩
      have hpl : ps.length = 3 := hpl
      have hd9 : ExD H H9 := (ExD.of hx08).trans e9
      have hw9 := hw.monoD hd9
      have ask9 : AskAt K H9 s1 tr m rows den low n := (ask5.mono (hx57.trans hx8)).monoD e9
      have hcal9 := w2.monoD hd9
      have hgD : gd ≠ D := ne_of_none ((hx35.trans (hx57.trans hx8)) _ _ hg3) hD
      have hg9 := e9 _ _ ((hx35.trans (hx57.trans hx8)) _ _ hg3) isSt_sv
      have w59 := hd9 _ _ w5 isSt_sv
      refine ⟨cal, ws, sg, low, low + n, s1, _, ⟨rfl, hcal9, ask9.say, g.ok.sum, by omega, q5.sz, q5.le, fun C fs h => by rw [href] at h; cases h⟩, fun _ => ⟨n, rfl, g.ok, fun H10 hx10 => ?_⟩⟩
      rw [hbr]
      have hps10 := hx10 _ _ hps
      have hd10 := hd9.then hx10
      have s10 := s9.mono hx10
      clear hps e9 hw9 hcal9 ask5 hw5 hcal5 q5 href hx05 hx35 hx57 hx08 hst8 hD
      clear h4 h5 h6 h7 hx4 hx5 hx6 hx7 hx8 hw3 w5' hT3 hx3 hg3 hx2 hgd2 hgd hgd0 hx1 hq1 hq0
      cases br with
      | none =>
        have ehd : hd = true := hTold.e.symm
        subst ehd
        simp only [pageV]
        walk_at "wp"
        exact ⟨⟨_, Evl.sq_of hps10⟩, eo_tail s10 (hw.monoD hd10) g (ask9.mono hx10) hps10 (by omega) hpp (hd10 _ _ w5 isSt_sv) (hx10 _ _ hg9) (by omega) hgm hTold (fun p hp => nomatch hp) (fun H' e s' => hQ H' (hd10.trans e) s')⟩
      | some p =>
        have ehd : hd = false := hTold.e.symm
        obtain ⟨_, hpsub, hplen⟩ := hTold.b p rfl
        subst ehd
        simp only [pageV]
        walk_at "wp"
        refine iss_ok ?_
        walk_at "wp"
        intro D2 hD2
        refine lc_V (walk_tx p) (fun _ => false) (fun i => .non) (fun _ _ => trivial) (by omega) hD2 ?_ ?_
        · rintro i v H11 H12 hi hx11 ⟨rfl, rfl⟩ Q' QN q1 q2
          refine ⟨rfl, ?_⟩
          simp only [wipe]
          walk_at "wp"
          rw [if_neg (not_not_intro (hpsub _ (getD_mem hi)))]
          exact q2 _ (Evl.Ex.refl _) rfl
        · intro H11 hx11 hD11
          have hD11' : H11 D2 = some (.lst []) := by rw [hD11]; simp
          refine ⟨szI (by show 0 ≤ 100000; omega), fun l hl => ?_⟩
          have hx12 := hx11.trans (Evl.Ex.new (o := .lst []) hl)
          refine ne_nil (Evl.Ex.new hl _ _ hD11') upd_same rfl ?_
          revert hx12
          generalize upd H11 l (.lst []) = H12
          intro hx12
          have hps12 := hx12 _ _ hps10
          walk_at "wp"
          refine ⟨tyL hps12, app_ok hps12 (by rw [sv_len]; omega) ?_⟩
          have hx102 := hx10.trans hx12
          have hdD : H D = none := hD0
          have hf : upd H12 D (.lst (sv ps ++ [.str (tx p)])) D = some (.lst (sv (ps ++ [p]))) := by rw [upd_same]; simp [sv]
          have hd13 : ExD H (upd H12 D (.lst (sv ps ++ [.str (tx p)]))) := (hd10.then hx12).mut hdD
          have s13 : StAt (upd H12 D (.lst (sv ps ++ [.str (tx p)]))) st ce := (s10.mono hx12).mut (hst.ne hdD)
          have ask13 : AskAt K (upd H12 D (.lst (sv ps ++ [.str (tx p)]))) s1 tr m rows den low n := ⟨SayAt.updL ((ask9.mono hx102).say) hps12, hT.monoD hd13, hm, hl3, hrw⟩
          exact ⟨⟨_, Evl.sq_of hf⟩, eo_tail s13 (hw.monoD hd13) g ask13 hf (by rw [List.length_append, List.length_singleton]; omega) (fun q hq => by
            rcases List.mem_append.mp hq with hq | hq
            · exact hpp q hq
            · rw [List.mem_singleton] at hq
              subst hq
              exact ⟨fun ch hc => g.sub ch (hpsub ch hc), by omega⟩) (hd13 _ _ w5 isSt_sv) (by rw [upd_ne hgD]; exact hx102 _ _ hg9) (by omega) hgm hTold (fun q hq => by cases hq; exact List.mem_append_right _ List.mem_cons_self) (fun H' e s' => hQ H' (hd13.trans e) s')⟩
end DR

set_option Elab.async false
set_option linter.all false
set_option maxRecDepth 100000
set_option maxHeartbeats 1000000
/-! the world that the law makes -/
namespace DR
open PySem PySem.Spec PyProof.Rows L2
def rows4 : List (List Nat) := [[97, 98, 99, 100], [98, 104, 113, 122], [97, 99, 120, 121], [108, 109, 110, 111]]
def lettersAll : List (List Nat) := rows4.flatMap fun r => [r.take 2, r.take 3, r.take 4]
def letB (ls : List Nat) : Bool := decide (1 ≤ ls.length) && (decide (ls.length ≤ 4) && (decide (ls.Pairwise (· < ·)) && ((ls.all fun c => decide (97 ≤ c) && decide (c < 123)) && (List.range ls.length).all fun k => decide (Txt.find (tx ls) (tx [ls.getD k 0]) = (k : Int)))))
theorem letB_ok : lettersAll.all letB = true := by decide +kernel
structure LetOk (ls : List Nat) : Prop where
  l1 : 1 ≤ ls.length
  l4 : ls.length ≤ 4
  up : ls.Pairwise (· < ·)
  az : ∀ c ∈ ls, 97 ≤ c ∧ c < 123
  fd : ∀ k, k < ls.length → Txt.find (tx ls) (tx [ls.getD k 0]) = (k : Int)
theorem let_ok {ls : List Nat} (h : ls ∈ lettersAll) : LetOk ls := by
  obtain ⟨h1, h⟩ := He.ba (List.all_eq_true.mp letB_ok ls h)
  obtain ⟨h2, h⟩ := He.ba h
  obtain ⟨h3, h⟩ := He.ba h
  obtain ⟨h4, h5⟩ := He.ba h
  refine ⟨of_decide_eq_true h1, of_decide_eq_true h2, of_decide_eq_true h3, fun c hc => ?_, fun k hk => of_decide_eq_true (List.all_eq_true.mp h5 k (List.mem_range.mpr hk))⟩
  obtain ⟨a, b⟩ := He.ba (List.all_eq_true.mp h4 c hc)
  exact ⟨of_decide_eq_true a, of_decide_eq_true b⟩
def pickOf (ls : List Nat) (p : Nat → Bool) : List Nat := ((List.range ls.length).filter p).map fun k => ls.getD k 0
theorem map_getD (ls : List Nat) : (List.range ls.length).map (fun k => ls.getD k 0) = ls := by
  refine List.ext_getElem (by simp) fun i h1 h2 => ?_
  simp [List.getElem?_eq_getElem h2]
theorem pick_sub (ls : List Nat) (p : Nat → Bool) : (pickOf ls p).Sublist ls := by
  have h : ((List.range ls.length).filter p).Sublist (List.range ls.length) := List.filter_sublist
  have := h.map fun k => ls.getD k 0
  rwa [map_getD] at this
theorem pick_mem {ls : List Nat} {p : Nat → Bool} {c : Nat} : c ∈ pickOf ls p ↔ ∃ k, k < ls.length ∧ p k = true ∧ ls.getD k 0 = c := by
  unfold pickOf
  rw [List.mem_map]
  constructor
  · rintro ⟨k, hk, e⟩
    obtain ⟨h1, h2⟩ := List.mem_filter.mp hk
    exact ⟨k, List.mem_range.mp h1, h2, e⟩
  · rintro ⟨k, h1, h2, e⟩
    exact ⟨k, List.mem_filter.mpr ⟨List.mem_range.mpr h1, h2⟩, e⟩
theorem up_at {t : List Nat} (h : t.Pairwise (· < ·)) {i : Nat} (hi : i < t.length) (h0 : 0 < i) : t.getD (i - 1) 0 < t.getD i 0 := by
  have := List.pairwise_iff_getElem.mp h (i - 1) i (by omega) hi (by omega)
  rw [List.getD_eq_getElem?_getD, List.getD_eq_getElem?_getD, List.getElem?_eq_getElem hi, List.getElem?_eq_getElem (show i - 1 < t.length by omega)]
  exact this
theorem pick_rising {ls : List Nat} (h : LetOk ls) (p : Nat → Bool) : risingB (pickOf ls p) = true := by
  refine risingB_iff.mpr fun i hi => ?_
  have hm := h.az _ ((pick_sub ls p).subset (getD_mem (d := 0) hi))
  refine ⟨hm.1, hm.2, ?_⟩
  by_cases h0 : i = 0
  · exact .inl h0
  · exact .inr (up_at (h.up.sublist (pick_sub ls p)) hi (by omega))
theorem getD_inj {ls : List Nat} (h : ls.Pairwise (· < ·)) {i j : Nat} (hi : i < ls.length) (hj : j < ls.length) (e : ls.getD i 0 = ls.getD j 0) : i = j := by
  rw [List.getD_eq_getElem?_getD, List.getD_eq_getElem?_getD, List.getElem?_eq_getElem hi, List.getElem?_eq_getElem hj] at e
  have e : ls[i] = ls[j] := e
  rcases Nat.lt_trichotomy i j with h1 | h1 | h1
  · have := List.pairwise_iff_getElem.mp h i j hi hj h1
    omega
  · exact h1
  · have := List.pairwise_iff_getElem.mp h j i hj hi h1
    omega
def maskB (P : Nat) : Bool := (List.range (topOf P)).all fun c => !(maskSet P (c + 1)).isEmpty
theorem mask_ne {P c : Nat} (h1 : 1 ≤ P) (h3 : P ≤ 3) (hc : 1 ≤ c) (hc2 : c ≤ topOf P) : maskSet P c ≠ [] := by
  have : maskB P = true := by
    match P, h1, h3 with
    | 1, _, _ => decide +kernel
    | 2, _, _ => decide +kernel
    | 3, _, _ => decide +kernel
  have h := List.all_eq_true.mp this (c - 1) (List.mem_range.mpr (by omega))
  rw [show c - 1 + 1 = c by omega] at h
  intro e
  rw [e] at h
  cases h
theorem mask_mem {P c : Nat} {y : Int} (h : y ∈ maskSet P c) : ∃ x : Nat, x < P ∧ y = x := by
  unfold maskSet at h
  obtain ⟨x, hx, rfl⟩ := List.mem_map.mp h
  exact ⟨x, List.mem_range.mp (List.mem_filter.mp hx).1, rfl⟩
section
variable {P : Nat} {ls : List Nat} {codes : List Nat}
theorem words_len : (wordsOf P ls (lawSets P codes)).length = P := mapr_len
theorem words_at {i : Nat} (h : i < P) : (wordsOf P ls (lawSets P codes)).getD i [] = pickOf ls fun k => decide ((i : Int) ∈ (lawSets P codes).getD k []) := mapr_get h
theorem words_rising (h : LetOk ls) : ∀ t ∈ wordsOf P ls (lawSets P codes), risingB t = true := by
  intro t ht
  obtain ⟨i, hi, rfl⟩ := List.mem_map.mp ht
  exact pick_rising h _
theorem sets_at {k : Nat} (h : k < codes.length) : (lawSets P codes).getD k [] = maskSet P (codes.getD k 0) := by
  unfold lawSets
  rw [List.getD_eq_getElem?_getD, List.getElem?_map, List.getElem?_eq_getElem h, List.getD_eq_getElem?_getD, List.getElem?_eq_getElem h]
  rfl
theorem stands_mem (h : LetOk ls) (hl : codes.length = ls.length) {k : Nat} (hk : k < ls.length) (y : Int) : y ∈ (lawSets P codes).getD k [] ↔ y ∈ standsOf (wordsOf P ls (lawSets P codes)) (ls.getD k 0) := by
  unfold standsOf
  rw [words_len, List.mem_map]
  constructor
  · intro hy
    have hy' := hy
    rw [sets_at (by omega)] at hy'
    obtain ⟨x, hx, rfl⟩ := mask_mem hy'
    refine ⟨x, List.mem_filter.mpr ⟨List.mem_range.mpr hx, decide_eq_true ?_⟩, rfl⟩
    rw [words_at hx]
    exact pick_mem.mpr ⟨k, hk, decide_eq_true hy, rfl⟩
  · rintro ⟨x, hx, rfl⟩
    obtain ⟨h1, h2⟩ := List.mem_filter.mp hx
    have h2 := of_decide_eq_true h2
    rw [words_at (List.mem_range.mp h1)] at h2
    obtain ⟨j, hj, h3, h4⟩ := pick_mem.mp h2
    have := getD_inj h.up hj hk h4
    subst this
    exact of_decide_eq_true h3
theorem words_sum (h : LetOk ls) : ((wordsOf P ls (lawSets P codes)).map List.length).sum ≤ P * 4 := by
  have : ∀ l : List (List Nat), (∀ t ∈ l, t.length ≤ 4) → (l.map List.length).sum ≤ l.length * 4 := by
    intro l
    induction l with
    | nil => intro _; exact Nat.le_refl _
    | cons t r ih =>
      intro ht
      have h1 := ih fun u hu => ht u (List.mem_cons_of_mem _ hu)
      have h2 := ht t List.mem_cons_self
      simp only [List.map_cons, List.sum_cons, List.length_cons]
      omega
  have h2 := this (wordsOf P ls (lawSets P codes)) fun t ht => by
    obtain ⟨i, hi, rfl⟩ := List.mem_map.mp ht
    exact Nat.le_trans (pick_sub ls _).length_le h.l4
  rwa [words_len] at h2
theorem gw_of (h : LetOk ls) (h1 : 1 ≤ P) (h3 : P ≤ 3) (hl : codes.length = ls.length) (hc : ∀ k ∈ codes, 1 ≤ k ∧ k ≤ topOf P) (p : Nat → Bool) {low : Int} {n : Nat} (b1 : -100 ≤ low) (b2 : low ≤ 100) (hn : n ≤ 3) : GW (wordsOf P ls (lawSets P codes)) ls (lawSets P codes) (pickOf ls p) low n := by
  have st : ∀ ch ∈ ls, standsOf (wordsOf P ls (lawSets P codes)) ch ≠ [] ∧ ∃ k, k < ls.length ∧ ls.getD k 0 = ch := by
    intro ch hch
    obtain ⟨k, hk, rfl⟩ := List.getElem_of_mem hch
    have e : ls.getD k 0 = ls[k] := by rw [List.getD_eq_getElem?_getD, List.getElem?_eq_getElem hk]; rfl
    refine ⟨fun z => ?_, k, hk, e⟩
    have hk2 : k < codes.length := by omega
    have hb := hc _ (getD_mem (d := 0) hk2)
    have hne := mask_ne h1 h3 hb.1 hb.2
    rw [← sets_at hk2] at hne
    obtain ⟨y, hy⟩ := List.exists_mem_of_ne_nil _ hne
    have := (stands_mem h hl hk y).mp hy
    rw [e, z] at this
    cases this
  have sub : ∀ ch ∈ pickOf ls p, ch ∈ ls := fun ch hc => (pick_sub ls p).subset hc
  refine ⟨⟨by rw [words_len]; omega, by rw [words_len]; omega, by have := words_sum (P := P) (codes := codes) h; omega, hn, by have := (pick_sub ls p).length_le; have := h.l4; omega, b1, b2, fun ch hch => (st ch (sub ch hch)).1⟩, ?_, sub, by unfold lawSets; rw [List.length_map]; exact hl, h.l1, h.l4, fun ch hch => by have := h.az ch hch; omega, fun ch hch => ?_⟩
  · unfold badAt
    rw [List.find?_eq_none]
    intro i hi
    have hi2 := List.mem_range.mp hi
    have hm := sub _ (getD_mem (d := 0) hi2)
    rw [badSg_f.mpr ⟨?_, ?_⟩]
    · exact Bool.false_ne_true
    · unfold signsOf
      have haz := h.az _ hm
      refine List.mem_filter.mpr ⟨mem_alpha.mpr haz, decide_eq_true ?_⟩
      obtain ⟨y, hy⟩ := List.exists_mem_of_ne_nil _ (st _ hm).1
      unfold standsOf at hy
      obtain ⟨x, hx, _⟩ := List.mem_map.mp hy
      obtain ⟨x1, x2⟩ := List.mem_filter.mp hx
      exact List.mem_flatten.mpr ⟨_, getD_mem (d := []) (List.mem_range.mp x1), of_decide_eq_true x2⟩
    · by_cases h0 : i = 0
      · exact .inl h0
      · exact .inr (up_at (h.up.sublist (pick_sub ls p)) hi2 (by omega))
  · obtain ⟨h4, k, hk, e⟩ := st ch hch
    refine ⟨k, hk, ?_, fun y => ?_, h4⟩
    · rw [← e]
      exact h.fd k hk
    · rw [← e]
      exact stands_mem h hl hk y
end
/-- the law's coat of one sign -/
theorem coat_one {P : Nat} {ls : List Nat} {codes : List Nat} {sg : List Nat} {low : Int} {n : Nat} (g : GW (wordsOf P ls (lawSets P codes)) ls (lawSets P codes) sg low n) {ch : Nat} (hc : ch ∈ ls) : lawPageCoat P [sfOf ls (lawSets P codes) ch] low n = signT (wordsOf P ls (lawSets P codes)) ch low n := by
  have h := page_law g (p := [ch]) (fun c hc2 => by rw [List.mem_singleton] at hc2; rw [hc2]; exact hc)
  rw [words_len] at h
  rw [← pageT_one g.ok.n3, ← h]
  rfl
end DR

set_option Elab.async false
set_option linter.all false
set_option maxRecDepth 100000
set_option maxHeartbeats 4000000
namespace DR
open PySem PySem.Spec PyProof.Rows L2
open PySem.W (Frag)
local macro_rules
  | `(tactic| walk_at "wp") => `(tactic| try simp only [L2.start, List.map_cons, List.map_nil, List.length_cons, List.length_nil, List.replicate, Nat.reduceAdd, Nat.reduceSub, List.cons_append, List.nil_append, List.append_nil, List.set_cons_succ, List.set_cons_zero,
      List.getElem?_cons_succ, List.getElem?_cons_zero, ap_K1, ap_K2, ap_seq, ap_next, ap_asg, ap_name, ap_ret, ap_retN, ap_drop, ap_ifS, ap_c, ap_var, ap_op, ap_un, ap_chain, ap_test, ap_B, ap_and, ap_or, ap_not, ap_yes, ap_notV, ap_if, ap_nil, ap_cons, ap_cb, ap_lst, ap_tup, ap_bm, ap_bm0, ap_m1, ap_call, ap_sl, ap_part, ap_nopart, ap_rI0, ap_rI, ap_rU, ap_eqI, ap_neI, ap_eqS, ap_neS, ap_eqB, ap_neB, ap_fld, ap_tup_, ap_gcons, ap_gnil, ap_gsub, ap_for, ap_lc, ap_rng1, ap_rng2, ap_list, ap_itup, ap_str, ap_enum, ap_zip, ap_inSg, ap_ninSg, ap_addS, ap_sfld, ap_meth, ap_prop, ap_make, ap_smeth, ap_never, ap_ost, ap_callS, ap_mko, ap_enumS, ap_zipS, ap_rng3, ap_listRg, ap_dnin, ap_din, ap_dput, ap_gfld, ap_kinds, ap_callO, ap_notN, ap_dc, ap_lenLets, ap_lst_, decide_true, decide_false, Bool.not_true, Bool.not_false,  ap_leS, lit_alpha, tg1, tg2, tg3, tg4, tg5, tg6, eq_self, ap_revL,  ap_rg1, ap_cval, len_abcdef, exists_and_left, exists_and_right, exists_eq_left', and_assoc, exists_eq_left, exists_eq, exists_eq', Option.some.injEq, V.int.injEq, V.str.injEq, V.ref.injEq, V.bl.injEq, V.ty.injEq, List.cons.injEq, and_true, true_and, decide_eq_true_eq, Bool.not_eq_true', decide_eq_false_iff_not, Bool.false_eq_true, if_true, if_false, reduceCtorEq, false_and, and_false, or_false, false_or, or_true, true_or, not_true_eq_false, not_false_eq_true, Int.zero_add, lit_nil, lit_a, tx_len, one_tx, tx_app, tx_inj, exists_const, forall_const])
  | `(tactic| walk_at "om") => `(tactic| repeat (refine ⟨by first | omega | exact szI, ?_⟩))

def sp_law (K : Frag) : Sp := fun vs H Q _ => ∃ (a : Addr) (ns : List Int), vs = [.ref a] ∧ SqL K H a (ns.map V.int) ∧ ns.length ≤ 100 ∧ ∀ H', Q (.bl true) H'
theorem lit_rows : (Str.ofString "abcd" : Str) = tx [97, 98, 99, 100] ∧ (Str.ofString "bhqz" : Str) = tx [98, 104, 113, 122] ∧ (Str.ofString "acxy" : Str) = tx [97, 99, 120, 121] ∧ (Str.ofString "lmno" : Str) = tx [108, 109, 110, 111] := by decide +kernel
theorem ap_isNb {b : Bool} {H : Hp} {Q : VK} : rIsN (.bl b) .non H Q = Q (.bl false) H := by simp only [rIsN, true_and, reduceCtorEq, decide_false]
theorem lets_in : ∀ v, v < 4 → ∀ v2, v2 < 3 → (rows4.getD v []).take (2 + v2) ∈ lettersAll ∧ (rows4.getD v []).length = 4 := by decide +kernel
theorem cut_ints {xs : List Int} {i : Int} {j : Nat} (e : i = (j : Int)) : cutV (xs.map V.int) none (some i) = (xs.take j).map V.int := by
  subst e
  unfold cutV
  rw [HT.sIx_none, HT.sIx_nat, List.drop_zero, ← List.map_take, List.length_map]
  congr 1
  by_cases h : j ≤ xs.length
  · rw [Nat.min_eq_left h]
    rfl
  · rw [Nat.min_eq_right (by omega), Nat.sub_zero, List.take_of_length_le (by omega), List.take_of_length_le (by omega)]
theorem mk_cal2 {K : Frag} {w0 : Addr} {ws : List (List Nat)} {H : Hp} {Q : Addr → Hp → Prop} {E : XK} (hw : H w0 = some (.lst (sv ws))) (h1 : 1 ≤ ws.length) (h6 : ws.length ≤ 6) (hr : ∀ t ∈ ws, risingB t = true) (q : ∀ p H', H p = none → Ex H H' → CalAt K H' p ws → Q p H') :
    rMake (gA K "Calendar") (fun x H2 => sp_Calendar_init K (.ref x :: ([.ref w0] ++ [])) H2 (fun v H3 => v = .non ∧ Q x H3) E) H := by
  intro x dx hx hdx hne
  have hE : Ex H (upd (upd H dx (.own x)) x (.ins (gA K "Calendar") dx [])) := (Evl.Ex.new hdx).mut hx
  exact ⟨x, dx, w0, ws, rfl, upd_same, hE _ _ hw, h1, h6, hr, fun H' e h => ⟨rfl, q x H' hx (fun b o ho => e b o (ne_of_none ho hx) (hE b o ho)) h⟩⟩
theorem sc_law : FnScope ["_law_script", "_law_state", "_law_places", "_law_letters", "_law_sets", "_law_calendar", "_law_picked", "_law_signs", "_law_low", "_law_size", "_law_tree_here", "_law_coats", "_law_char", "_law_stands_here", "_law_kinds", "_law_world", "_law_one", "_law_other", "_law_k"] ["_law_script"] (defScope s_law) := ⟨rfl, rfl, rfl, by decide +kernel, rfl, by decide +kernel, by decide +kernel⟩
theorem b_law {K : Frag} {mg : Str → Option Value} (c : Wd K mg) : Binds K (fdOf K (gA K "law")) ["_law_script"] [] := c.f_law.binds (fun _ _ _ _ _ _ us hl => match us, hl with | [_], _ => rfl)
theorem ok_law {P : Program} {w : World} {K : Frag} {mg : Str → Option Value} {base : Heap} (c : Wd K mg) (M : MainOk P) : FnOk P w K mg base (L2.CX P w) 12 (gA K "law") (fdOf K (gA K "law")) ["_law_script"] (sp_law K) := by
  refine c.f_law.okX sc_law (fun vs H Q E h => ?_) (fun cdv A outer s H vs Q E hr h => ⟨_, PSs.nox (pss_cons (ps_set (i := 1) sc_law.nd rfl (Or.inl rfl) (pe_call (ok_law_begin c) (hr.mono (by decide)) rfl c.g_law_begin c.f_law_begin.kp (b_law_begin c) .nil passL (pa_cons (pv 0) pa_nil)))
      (pss_cons (ps_set (i := 2) sc_law.nd rfl (Or.inl rfl) (pe_ix ix_list (pe_lst (pa_cons pe_int (pa_cons pe_int (pa_cons pe_int (pa_cons pe_int pa_nil))))) (pe_call (ok_law_draw c) (hr.mono (by decide)) rfl c.g_law_draw c.f_law_draw.kp (b_law_draw c) .nil passL (pa_cons (pv 1) (pa_cons pe_int pa_nil))) (fun _ _ => rfl)))
      (pss_cons (ps_set (i := 3) sc_law.nd rfl (Or.inr rfl) (pe_ix ix_list (pe_lst (pa_cons pe_str (pa_cons pe_str (pa_cons pe_str (pa_cons pe_str pa_nil))))) (pe_call (ok_law_draw c) (hr.mono (by decide)) rfl c.g_law_draw c.f_law_draw.kp (b_law_draw c) .nil passL (pa_cons (pv 1) (pa_cons pe_int pa_nil))) (fun _ _ => rfl)))
      (pss_cons (ps_set (i := 3) sc_law.nd rfl (Or.inr rfl) (pe_slice sl_str (pv 3) po_none (po_some (pe_op op_add pe_int (pe_call (ok_law_draw c) (hr.mono (by decide)) rfl c.g_law_draw c.f_law_draw.kp (b_law_draw c) .nil passL (pa_cons (pv 1) (pa_cons pe_int pa_nil)))))))
      (pss_cons (ps_set (i := 4) sc_law.nd rfl (Or.inl rfl) (pe_call (ok_law_stands c) (hr.mono (by decide)) rfl c.g_law_stands c.f_law_stands.kp (b_law_stands c) .nil passL (pa_cons (pv 1) (pa_cons (pv 2) (pa_cons (pe_callB call_len_str (by rfl) c.z_len (by decide +kernel) (pa_cons (pv 3) pa_nil)) pa_nil)))))
      (pss_cons (ps_set (i := 5) sc_law.nd rfl (Or.inl rfl) (pe_make c.mk_Calendar (ok_Calendar_init c) (hr.mono (by decide)) rfl c.g_Calendar (b_Calendar_init c) .nil passL (pa_cons (pe_call (ok_law_words c) (hr.mono (by decide)) rfl c.g_law_words c.f_law_words.kp (b_law_words c) .nil passL (pa_cons (pv 2) (pa_cons (pv 3) (pa_cons (pv 4) pa_nil)))) pa_nil)))
      (pss_cons (ps_set (i := 6) sc_law.nd rfl (Or.inr rfl) (pe_lst (pa_cons (pe_call (ok_law_draw c) (hr.mono (by decide)) rfl c.g_law_draw c.f_law_draw.kp (b_law_draw c) .nil passL (pa_cons (pv 1) (pa_cons (pe_callB call_len_str (by rfl) c.z_len (by decide +kernel) (pa_cons (pv 3) pa_nil)) pa_nil))) pa_nil)))
      (pss_cons (ps_expr (pe_bm PySem.F.plainAttrs_list PySem.F.slot_list_append PySem.F.type_list_append mt_append (pv 6) (pa_cons (pe_op op_mod (pe_callTy call_int1 (by rfl) c.z_int (by decide +kernel) (pa_cons (pe_op op_add (pe_call (ok_law_draw c) (hr.mono (by decide)) rfl c.g_law_draw c.f_law_draw.kp (b_law_draw c) .nil passL (pa_cons (pv 1) (pa_cons (pe_callB call_len_str (by rfl) c.z_len (by decide +kernel) (pa_cons (pv 3) pa_nil)) pa_nil))) pe_int) pa_nil)) (pe_callB call_len_str (by rfl) c.z_len (by decide +kernel) (pa_cons (pv 3) pa_nil))) pa_nil)))
      (pss_cons (ps_set (i := 6) sc_law.nd rfl (Or.inr rfl) (pe_slice sl_list (pv 6) po_none (po_some (pe_op op_mod (pe_callTy call_int1 (by rfl) c.z_int (by decide +kernel) (pa_cons (pe_op op_add (pe_call (ok_law_draw c) (hr.mono (by decide)) rfl c.g_law_draw c.f_law_draw.kp (b_law_draw c) .nil passL (pa_cons (pv 1) (pa_cons pe_int pa_nil))) pe_int) pa_nil)) pe_int))))
      (pss_cons (ps_set (i := 7) sc_law.nd rfl (Or.inl rfl) (pe_joinV pe_str (pe_lc (own := [("_law_k", 18)]) (g := gName 18) rfl sc_law.nd (pi_range1 rfl c.z_range (pa_cons (pe_callB call_len_str (by rfl) c.z_len (by decide +kernel) (pa_cons (pv 3) pa_nil)) pa_nil)) (blkOk_by (own := [("_law_k", 18)]) (N := ["_law_script", "_law_state", "_law_places", "_law_letters", "_law_sets", "_law_calendar", "_law_picked", "_law_signs", "_law_low", "_law_size", "_law_tree_here", "_law_coats", "_law_char", "_law_stands_here", "_law_kinds", "_law_world", "_law_one", "_law_other", "_law_k"]) (sc := defScope s_law) (by decide +kernel)) (fun _ _ _ _ _ => (pg_name (i := 18) sc_law.nd rfl (Or.inl rfl))) (fun _ _ _ _ _ => (pts_one (pt_cmpR (r := rIn K false) op_in_seq (pv 18) (pv 6) rfl))) (fun _ _ _ _ _ => (pe_ix ix_str (pv 3) (pv 18) (fun _ _ => rfl))))))
      (pss_cons (ps_set (i := 8) sc_law.nd rfl (Or.inl rfl) (pe_op op_sub (pe_op op_mod (pe_callTy call_int1 (by rfl) c.z_int (by decide +kernel) (pa_cons (pe_op op_add (pe_call (ok_law_draw c) (hr.mono (by decide)) rfl c.g_law_draw c.f_law_draw.kp (b_law_draw c) .nil passL (pa_cons (pv 1) (pa_cons pe_int pa_nil))) pe_int) pa_nil)) pe_int) pe_int))
      (pss_cons (ps_set (i := 9) sc_law.nd rfl (Or.inl rfl) (pe_op op_mod (pe_callTy call_int1 (by rfl) c.z_int (by decide +kernel) (pa_cons (pe_op op_add (pe_call (ok_law_draw c) (hr.mono (by decide)) rfl c.g_law_draw c.f_law_draw.kp (b_law_draw c) .nil passL (pa_cons (pv 1) (pa_cons pe_int pa_nil))) pe_int) pa_nil)) pe_int))
      (pss_cons (ps_set (i := 10) sc_law.nd rfl (Or.inl rfl) (pe_call (ok_law_tree c) (hr.mono (by decide)) rfl c.g_law_tree c.f_law_tree.kp (b_law_tree c) .nil passL (pa_cons (pv 1) (pa_cons (pv 8) (pa_cons (pv 9) pa_nil)))))
      (pss_cons (ps_set (i := 11) sc_law.nd rfl (Or.inl rfl) (pe_lst pa_nil))
      (pss_cons (ps_for PassesOwn.never rfl (pi_str (pv 7)) (pg_name (i := 12) sc_law.nd rfl (Or.inl rfl)) (pss_cons (ps_set (i := 13) sc_law.nd rfl (Or.inl rfl) (pe_ix ix_list (pv 4) (pe_m1 PySem.F.slot_str_find PySem.F.type_str_find mt_find (pv 3) (pv 12)) (fun _ _ => rfl)))
      (pss_one (ps_expr (pe_bm PySem.F.plainAttrs_list PySem.F.slot_list_append PySem.F.type_list_append mt_append (pv 11) (pa_cons (pe_call (ok_law_page_coat c) (hr.mono (by decide)) rfl c.g_law_page_coat c.f_law_page_coat.kp (b_law_page_coat c) .nil passL (pa_cons (pv 2) (pa_cons (pe_lst (pa_cons (pv 13) pa_nil)) (pa_cons (pv 8) (pa_cons (pv 9) pa_nil))))) pa_nil))))))
      (pss_cons (ps_set (i := 14) sc_law.nd rfl (Or.inl rfl) (pe_call (ok_law_closure c) (hr.mono (by decide)) rfl c.g_law_closure c.f_law_closure.kp (b_law_closure c) .nil passL (pa_cons (pv 11) (pa_cons (pv 9) pa_nil))))
      (pss_cons (ps_set (i := 15) sc_law.nd rfl (Or.inl rfl) (pe_lst (pa_cons (pv 5) (pa_cons (pv 3) (pa_cons (pv 4) (pa_cons (pv 7) (pa_cons (pv 8) (pa_cons (pv 9) (pa_cons (pv 11) (pa_cons (pv 14) pa_nil))))))))))
      (pss_cons (ps_if (pt_not (pt_val (pe_call (ok_law_refusals c) (hr.mono (by decide)) rfl c.g_law_refusals c.f_law_refusals.kp (b_law_refusals c) .nil passL (pa_cons (pv 1) (pa_cons (pv 5) (pa_cons (pv 7) (pa_cons (pv 8) (pa_cons (pv 9) (pa_cons (pe_call (ok_law_saying c) (hr.mono (by decide)) rfl c.g_law_saying c.f_law_saying.kp (b_law_saying c) .nil passL (pa_cons (pv 10) pa_nil)) pa_nil))))))))) (pss_one (ps_ret pe_bl)) pss_nil)
      (pss_cons (ps_set (i := 16) sc_law.nd rfl (Or.inl rfl) (pe_call (ok_law_either_or c M) (hr.mono (by decide)) rfl c.g_law_either_or c.f_law_either_or.kp (b_law_either_or c) .nil passL (pa_cons (pv 1) (pa_cons (pv 15) (pa_cons (pv 10) (pa_cons pe_bl pa_nil))))))
      (pss_cons (ps_set (i := 17) sc_law.nd rfl (Or.inl rfl) (pe_call (ok_law_either_or c M) (hr.mono (by decide)) rfl c.g_law_either_or c.f_law_either_or.kp (b_law_either_or c) .nil passL (pa_cons (pv 1) (pa_cons (pv 15) (pa_cons (pv 10) (pa_cons pe_bl pa_nil))))))
      (pss_cons (ps_if (PW.pt (pw_or (pt_cmpR op_isN1 (pv 16) pe_non (nomark _)) (pw_or1 (pt_cmpR op_isN1 (pv 17) pe_non (nomark _))))) (pss_one (ps_ret pe_bl)) pss_nil)
      (pss_one (ps_ret (pe_or (pe_not (pv 16)) (pe_one (pe_not (pv 17))))))))))))))))))))))))))), ?_⟩)
  · obtain ⟨a, ns, rfl, hS, hz, hQ⟩ := h
    rfl
  obtain ⟨a, ns, rfl, hS, hz, hQ⟩ := h
  walk_at "wp"
  refine ⟨a, ns, rfl, hS, hz, fun st ce H1 hx1 hs1 => ?_⟩
  have hd1 : ExD H H1 := .of hx1
  walk_at "wp"
  refine ⟨szI (by show 4 ≤ 100000; omega), fun l1 hl1 => ?_⟩
  have g1 := Evl.Ex.new (o := .lst [.int 2, .int 3, .int 1, .int 3]) hl1
  have p1 : upd H1 l1 (.lst [.int 2, .int 3, .int 1, .int 3]) l1 = _ := upd_same
  revert g1 p1
  generalize upd H1 l1 (.lst [.int 2, .int 3, .int 1, .int 3]) = H2
  intro g1 p1
  refine ⟨st, ce, 4, rfl, hs1.mono g1, by omega, by omega, fun v H3 hv e3 s3 => ?_⟩
  have p3 : H3 l1 = _ := e3 _ _ p1 (isSt_ints (cs := [2, 3, 1, 3]))
  obtain ⟨P', hP, hP1, hP3⟩ : ∃ P' : Nat, ([.int 2, .int 3, .int 1, .int 3] : List V)[v]? = some (.int (P' : Nat)) ∧ 1 ≤ P' ∧ P' ≤ 3 := by
    match v, hv with
    | 0, _ => exact ⟨2, rfl, by omega, by omega⟩
    | 1, _ => exact ⟨3, rfl, by omega, by omega⟩
    | 2, _ => exact ⟨1, rfl, by omega, by omega⟩
    | 3, _ => exact ⟨3, rfl, by omega, by omega⟩
  refine ixL_v v (Evl.sq_of p3) rfl hP ?_
  clear hP p3 p1 g1 hl1 e3 hs1 hv
  walk_at "wp"
  refine ⟨szI (by show 4 ≤ 100000; omega), fun l2 hl2 => ?_⟩
  obtain ⟨q1, q2, q3, q4⟩ := lit_rows
  rw [q1, q2, q3, q4]
  have g2 := Evl.Ex.new (o := .lst (sv rows4)) hl2
  have p2 : upd H3 l2 (.lst (sv rows4)) l2 = _ := upd_same
  generalize hH : upd H3 l2 (.lst [.str (tx [97, 98, 99, 100]), .str (tx [98, 104, 113, 122]), .str (tx [97, 99, 120, 121]), .str (tx [108, 109, 110, 111])]) = H4
  have hH' : upd H3 l2 (.lst (sv rows4)) = H4 := hH
  rw [hH'] at g2 p2
  clear hH hH' q1 q2 q3 q4 hl2
  refine ⟨st, ce, 4, rfl, s3.mono g2, by omega, by omega, fun v H5 hv e5 s5 => ?_⟩
  refine ixL_s v (Evl.sq_of (e5 _ _ p2 isSt_sv)) rfl hv ?_
  clear g2 p2 e5 s3
  walk_at "wp"
  refine ⟨st, ce, 3, rfl, s5, by omega, by omega, fun v2 H6 hv2 e6 s6 => ?_⟩
  obtain ⟨hlt, hl4⟩ := lets_in v hv v2 hv2
  walk_at "wp"
  refine slS_ok (by omega) ?_
  rw [cutS_take2 _ _ (2 + v2) (by omega)]
  revert hlt
  generalize (rows4.getD v []).take (2 + v2) = ls
  intro hlt
  have lo := let_ok hlt
  have ll1 := lo.l1
  have ll4 := lo.l4
  clear hlt hl4 hv hv2 s5
  walk_at "wp"
  refine ⟨szI, st, ce, P', ls.length, rfl, s6, hP1, hP3, ll4, fun codes sa H7 hcl hcb e7 s7 hL7 => ?_⟩
  have hsl : (lawSets P' codes).length = ls.length := by simp [lawSets, hcl]
  walk_at "wp"
  refine ⟨P', ls, sa, lawSets P' codes, rfl, hL7, hsl, hP3, ll4, fun w0 H8 _ hx8 hw8 => ?_⟩
  walk_at "wp"
  refine mk_cal2 hw8 (by rw [words_len]; omega) (by rw [words_len]; omega) (words_rising lo) fun cal H9 _ hx9 hcal => ?_
  have hL9 := hL7.mono (hx8.trans hx9)
  have s9 := s7.mono (hx8.trans hx9)
  clear hw8 hL7 hx8 hx9 s7 e7 s6
  walk_at "wp"
  refine ⟨szI, st, ce, ls.length, rfl, s9, by omega, by omega, fun v3 H10 hv3 e10 s10 => ?_⟩
  walk_at "wp"
  refine ⟨szI (by show 1 ≤ 100000; omega), fun pk hpk => ?_⟩
  have g11 := Evl.Ex.new (o := .lst [.int (v3 : Nat)]) hpk
  have p11 : upd H10 pk (.lst [.int (v3 : Nat)]) pk = _ := upd_same
  revert g11 p11
  generalize upd H10 pk (.lst [.int (v3 : Nat)]) = H11
  intro g11 p11
  have s11 := s10.mono g11
  have hL10 := hL9.monoD e10
  have hc10 := hcal.monoD e10
  have pne := s10.ne hpk
  clear e10 hL9 hcal s9
  walk_at "wp"
  refine ⟨tyL p11, szI, st, ce, ls.length, rfl, s11, by omega, by omega, fun v4 H12 hv4 e12 s12 => ?_⟩
  have p12 := e12 _ _ p11 (isSt_ints (cs := [(v3 : Int)]))
  walk_at "wp"
  refine ⟨szI, by omega, app_ok p12 (by show 1 < 100000; omega) ?_⟩
  have s13 := s12.mut (o := .lst ([.int (v3 : Nat)] ++ [.int (((v4 : Int) + 1) % (ls.length : Int))])) pne
  have e13 := ((ExD.of g11).trans e12).mut (o := .lst ([.int (v3 : Nat)] ++ [.int (((v4 : Int) + 1) % (ls.length : Int))])) hpk
  have p13 : upd H12 pk (.lst ([.int (v3 : Nat)] ++ [.int (((v4 : Int) + 1) % (ls.length : Int))])) pk = some (.lst ([(v3 : Int), ((v4 : Int) + 1) % (ls.length : Int)].map V.int)) := upd_same
  revert s13 e13 p13
  generalize upd H12 pk (.lst ([.int (v3 : Nat)] ++ [.int (((v4 : Int) + 1) % (ls.length : Int))])) = H13
  generalize [(v3 : Int), ((v4 : Int) + 1) % (ls.length : Int)] = pks
  intro s13 e13 p13
  have hL13 := hL10.monoD e13
  have hc13 := hc10.monoD e13
  clear hpk g11 s10 s11 p11 e12 s12 p12 e13 hL10 hc10 pne hv3 hv4
  walk_at "wp"
  refine ⟨st, ce, 3, rfl, s13, by omega, by omega, fun v5 H14 hv5 e14 s14 => ?_⟩
  have p14 := e14 _ _ p13 isSt_ints
  have hL14 := hL13.monoD e14
  have hc14 := hc13.monoD e14
  clear s13 p13 hL13 hc13 e14
  walk_at "wp"
  refine ⟨by omega, pk, _, rfl, Evl.sq_of p14, fun pq hpq => ?_⟩
  have hci : cutV (pks.map V.int) none (some (((v5 : Int) + 2) % 3)) = (pks.take ((v5 + 2) % 3)).map V.int := cut_ints (mod_nat v5 2 3)
  rw [hci]
  clear hci
  have g15 := Evl.Ex.new (o := .lst ((pks.take ((v5 + 2) % 3)).map V.int)) hpq
  have p15 : upd H14 pq (.lst ((pks.take ((v5 + 2) % 3)).map V.int)) pq = _ := upd_same
  revert g15 p15
  generalize upd H14 pq (.lst ((pks.take ((v5 + 2) % 3)).map V.int)) = H15
  generalize pks.take ((v5 + 2) % 3) = xs
  intro g15 p15
  have hL15 := hL14.mono g15
  have hc15 := hc14.mono g15
  have s15 := s14.mono g15
  clear hpq g15 p14 hL14 hc14 s14 hv5
  refine ⟨szI, ?_⟩
  walk_at "om"
  intro D hD
  refine lc_V walk_range (fun k => decide ((k : Int) ∈ xs)) (fun k => .str (tx [ls.getD k 0])) (fun _ _ => trivial) (by omega) hD ?_ ?_
  · rintro k v H16 H17 hk hx16 ⟨rfl, rfl⟩ Q' QN k1 k2
    refine ⟨rfl, ?_⟩
    simp only [wipe]
    walk_at "wp"
    have hk : k < ls.length := by simpa using hk
    refine in_int (Evl.sq_of (hx16 _ _ p15)) ?_
    walk_at "wp"
    by_cases h : (k : Int) ∈ xs
    · rw [if_pos h]
      exact ixS_t k rfl hk (by omega) (k1 _ (Evl.Ex.refl _) (decide_eq_true h))
    · rw [if_neg h]
      exact k2 _ (Evl.Ex.refl _) (decide_eq_false h)
  · intro H16 hx16 hD16
    rw [Int.toNat_natCast] at hD16
    have hsv : H16 D = some (.lst (sv (((List.range ls.length).filter fun k : Nat => decide ((k : Int) ∈ xs)).map fun k : Nat => [ls.getD k 0]))) := by
      rw [hD16]
      simp [sv]
    have hL16 := hL15.mono hx16
    have hc16 := hc15.mono hx16
    have s16 := s15.mono hx16
    refine join_ok (Evl.sq_of hsv) ?_ ?_
    · rw [singles_sum]
      have := List.length_filter_le (fun k : Nat => decide ((k : Int) ∈ xs)) (List.range ls.length)
      rw [List.length_range] at this
      omega
    rw [singles_flat]
    have hpick : ((List.range ls.length).filter fun k : Nat => decide ((k : Int) ∈ xs)).map (fun k => ls.getD k 0) = pickOf ls fun k => decide ((k : Int) ∈ xs) := rfl
    rw [hpick]
    clear hpick hsv hD16 hx16 hD p15 s15 hL15 hc15
    walk_at "wp"
    refine ⟨st, ce, 7, rfl, s16, by omega, by omega, fun v6 H17 hv6 e17 s17 => ?_⟩
    walk_at "wp"
    have hL17 := hL16.monoD e17
    have hc17 := hc16.monoD e17
    clear s16 hL16 hc16 e17
    have hb1 : -100 ≤ ((v6 : Int) + 3) % 7 - 3 := by omega
    have hb2 : ((v6 : Int) + 3) % 7 - 3 ≤ 100 := by omega
    revert hb1 hb2
    generalize ((v6 : Int) + 3) % 7 - 3 = low
    intro hb1 hb2
    refine ⟨by omega, ?_⟩
    refine ⟨st, ce, 4, rfl, s17, by omega, by omega, fun v7 H18 hv7 e18 s18 => ?_⟩
    walk_at "wp"
    have hL18 := hL17.monoD e18
    have hc18 := hc17.monoD e18
    clear s17 hL17 hc17 e18
    have hnn : ((v7 : Int) + 3) % 4 = (((v7 + 3) % 4 : Nat) : Int) := mod_nat v7 3 4
    have hn3 : (v7 + 3) % 4 ≤ 3 := by omega
    rw [hnn]
    revert hn3
    generalize (v7 + 3) % 4 = n
    intro hn3
    clear hnn hv7 hv6
    refine ⟨by omega, ?_⟩
    have g := gw_of lo hP1 hP3 hcl hcb (fun k => decide ((k : Int) ∈ xs)) hb1 hb2 hn3
    revert g
    generalize (pickOf ls fun k => decide ((k : Int) ∈ xs)) = sg
    intro g
    refine ⟨st, ce, low, n, rfl, s18, by omega, fun m rows tr H19 hm hl3 hrw e19 s19 hT19 => ?_⟩
    have hL19 := hL18.monoD e19
    have hc19 := hc18.monoD e19
    clear s18 hL18 hc18 e19
    walk_at "wp"
    refine ⟨szI (by show 0 ≤ 100000; omega), fun co hco => ?_⟩
    have g20 := Evl.Ex.new (o := .lst []) hco
    have p20 : upd H19 co (.lst []) co = some (.lst (sv [])) := upd_same
    revert g20 p20
    generalize upd H19 co (.lst []) = H20
    intro g20 p20
    refine lp_str (fun i σ' H' => ∃ y z, σ' = [some (.ref a), some (.ref st), some (.int P'), some (.str (tx ls)), some (.ref sa), some (.ref cal), some (.ref pq), some (.str (tx sg)), some (.int low), some (.int n), some (.ref tr), some (.ref co), y, z, none, none, none, none, none] ∧ Ex H19 H' ∧ H' co = some (.lst (sv ((sg.take i).map fun ch => signT (wordsOf P' ls (lawSets P' codes)) ch low n)))) ⟨_, _, rfl, g20, p20⟩ ?_ ?_
    · rintro i σ' H21 hi ⟨y, z, rfl, hx21, p21⟩
      have hch := getD_mem (d := 0) hi
      have htk : sg.take (i + 1) = sg.take i ++ [sg.getD i 0] := by
        rw [List.take_add_one, List.getElem?_eq_getElem hi, List.getD_eq_getElem?_getD, List.getElem?_eq_getElem hi]
        rfl
      rw [htk]
      revert hch
      generalize sg.getD i 0 = ch
      intro hch
      have hchl := g.sub ch hch
      obtain ⟨k, hk1, hk2, _⟩ := g.fnd ch hchl
      walk_at "wp"
      rw [hk2]
      obtain ⟨as, ha1, ha2, ha3⟩ := hL19.mono hx21
      rw [hsl] at ha2 ha3
      obtain ⟨aa, e1, e2⟩ := ha3 k hk1
      refine ixL_v k (v := .ref aa) (Evl.sq_of ha1) rfl (by rw [List.getElem?_map, e1]; rfl) ?_
      walk_at "wp"
      refine ⟨tyL p21, szI (by show 1 ≤ 100000; omega), fun q hq => ?_⟩
      have g22 := Evl.Ex.new (o := .lst [.ref aa]) hq
      have hsf : sfOf ls (lawSets P' codes) ch = (lawSets P' codes).getD k [] := by
        unfold sfOf
        rw [hk2, Int.toNat_natCast]
      have LL22 : LL (upd H21 q (.lst [.ref aa])) q [sfOf ls (lawSets P' codes) ch] := by
        refine ⟨[aa], upd_same, rfl, fun j hj => ?_⟩
        have hj0 : j = 0 := by simpa using hj
        subst hj0
        refine ⟨aa, rfl, ?_⟩
        show upd H21 q (.lst [.ref aa]) aa = some (.lst ((sfOf ls (lawSets P' codes) ch).map V.int))
        rw [hsf]
        exact g22 _ _ e2
      refine ⟨P', n, q, low, [sfOf ls (lawSets P' codes) ch], rfl, LL22, hP1, by simp, by omega, hb1, hb2, fun H23 hx23 => ?_⟩
      rw [coat_one g hchl]
      have hx1923 := hx21.trans (g22.trans hx23)
      refine app_ok ((g22.trans hx23) _ _ p21) (by rw [sv_len, List.length_map, List.length_take]; have := g.ok.sgl; omega) ?_
      refine ⟨hx1923.mut hco, ?_⟩
      rw [upd_same]
      simp [sv]
    · rintro σ' H21 ⟨y, z, rfl, hx21, p21⟩
      rw [List.take_length] at p21
      have hn3' := g.ok.n3
      have hsgl := g.ok.sgl
      have hL21 := hL19.mono hx21
      have hc21 := hc19.mono hx21
      have hT21 := hT19.monoD (.of hx21)
      have s21 := s19.mono hx21
      clear hL19 hc19 hT19 s19 hx21 g20 p20 hco
      walk_at "wp"
      refine ⟨co, n, _, rfl, Evl.sq_of p21, by omega, by rw [List.length_map]; omega, fun t ht => ?_, fun ka H22 _ hx22 p22 => ?_⟩
      · obtain ⟨ch, _, rfl⟩ := List.mem_map.mp ht
        rw [(allT_mem (signT_in hn3' _ ch low).2.1).2]
        omega
      rw [← kinds_closure hn3'] at p22
      walk_at "wp"
      refine ⟨szI (by show 8 ≤ 100000; omega), fun wd hwd => ?_⟩
      have hx23 := hx22.trans (Evl.Ex.new (o := .lst [.ref cal, .str (tx ls), .ref sa, .str (tx sg), .int low, .int (n : Nat), .ref co, .ref ka]) hwd)
      have W23 : WorldAt K (upd H22 wd (.lst [.ref cal, .str (tx ls), .ref sa, .str (tx sg), .int low, .int (n : Nat), .ref co, .ref ka])) wd cal (wordsOf P' ls (lawSets P' codes)) ls (lawSets P' codes) sg low n :=
        ⟨sa, co, ka, upd_same, hc21.mono hx23, hL21.mono hx23, hx23 _ _ p21, Evl.Ex.new hwd _ _ p22⟩
      revert hx23 W23
      generalize upd H22 wd (.lst [.ref cal, .str (tx ls), .ref sa, .str (tx sg), .int low, .int (n : Nat), .ref co, .ref ka]) = H23
      intro hx23 W23
      have hc23 := hc21.mono hx23
      have hT23 := hT21.monoD (.of hx23)
      have s23 := s21.mono hx23
      clear hc21 hL21 hT21 s21 hx23 p21 p22 hx22 hwd
      refine ⟨tr, m, rows, low, n, rfl, hT23, hm, hl3, hrw, fun sa1 H24 hx24 h24 => ?_⟩
      walk_at "wp"
      have hts := lawTr_size (m := m) (rows := rows)
      refine ⟨st, ce, cal, sa1, _, sg, low, n, lawTr m rows, rfl, s23.mono hx24, hc23.mono hx24, h24, g.ok.sum, hsgl, hn3', g.bad, lawTr_in hl3 hrw, lawTr_le hl3 hrw, by omega, fun H25 e25 s25 => ?_⟩
      have W25 := (W23.mono hx24).monoD e25
      have hT25 := (hT23.monoD (.of hx24)).monoD e25
      walk_at "wp"
      refine ⟨st, ce, wd, cal, tr, _, ls, _, sg, low, n, m, rows, false, rfl, s25, W25, g, hT25, hm, hl3, hrw, fun H26 e26 s26 => ?_⟩
      walk_at "wp"
      refine ⟨st, ce, wd, cal, tr, _, ls, _, sg, low, n, m, rows, true, rfl, s26, W25.monoD e26, g, hT25.monoD e26, hm, hl3, hrw, fun H27 e27 s27 => ?_⟩
      have nb : holdsB (wordsOf P' ls (lawSets P' codes)) sg low n (denT false (lawTr m rows)) = true → holdsB (wordsOf P' ls (lawSets P' codes)) sg low n (denT true (lawTr m rows)) = false := not_both (t := lawTr m rows)
      revert nb
      generalize holdsB (wordsOf P' ls (lawSets P' codes)) sg low n (denT false (lawTr m rows)) = one
      generalize holdsB (wordsOf P' ls (lawSets P' codes)) sg low n (denT true (lawTr m rows)) = other
      intro nb
      walk_at "wp"
      rw [ap_isNb]
      walk_at "wp"
      rw [ap_isNb]
      walk_at "wp"
      refine orV_ok (x := !one) (y := !other) (fun Q q => notV_ok (x := one) (fun Q q => ⟨_, rfl, q⟩) q) (fun Q q => notV_ok (x := other) (fun Q q => ⟨_, rfl, q⟩) q) ?_
      have hf : (!one || !other) = true := by
        cases h1 : one with
        | false => rfl
        | true => rw [nb h1]; rfl
      rw [hf]
      exact hQ _
end DR

set_option Elab.async false
set_option linter.all false
set_option maxRecDepth 100000
set_option maxHeartbeats 0
/-! the end -/
namespace DR
open PySem PySem.Spec PyProof.Rows L2
theorem mainOk : MainOk (PySem.Challenge.rw_datelessrolls_k91_whole_either_or).prog := ⟨by kernel_rfl, by kernel_rfl⟩
abbrev dLaw := HandSHeadRun.topDef R.prog 98
theorem dLaw_name : dLaw.name = ("law" : Str) := by kernel_rfl
end DR
open PySem PySem.W PySem.Calls PyProof.Rows
theorem PySem.Challenge.cw_datelessrolls_k91_whole_either_or_holds : PySem.Challenge.rw_datelessrolls_k91_whole_either_or.Holds := by
  w_on; o_law
  refine HandSHeadRun.head_any (r := OpenLaw.row PySem.Challenge.rw_datelessrolls_k91_whole_either_or) (q := DR.vw) (H := DR.hookW) (ob := DR.obT) (M := 10400) (loose := DR.looseN) (d := DR.dLaw) (kwd := []) DR.obT_eq
    (by kernel_rfl) (fun s => by kernel_rfl) DR.run (by kernel_rfl) (by kernel_rfl) (by kernel_rfl) (by rfl) (by first | assumption | decide +kernel) (by decide +kernel) ⟨rfl, rfl, rfl, rfl, rfl, by decide +kernel⟩ ?hw ?hc
  case hw => w_witness2
  case hc =>
    refine LamX.walk_ofTsE (l := PySem.Challenge.rw_datelessrolls_k91_whole_either_or) (n := 63) (k := 12) (x := "_law_script") (CX := fun w => L2.CX (PySem.Challenge.rw_datelessrolls_k91_whole_either_or).prog w) rfl (by decide) (by kernel_rfl) ⟨rfl, by decide, by decide⟩ ?F (fun w H s e s' ⟨_, _, _, _, _, _, _, _, _, _, _, _, z⟩ => z)
    intro w mg fa h Y G hmg0
    obtain ⟨K, KX, c0⟩ := Y
    have hmg : mg ("law" : PySem.Str) = some (.ref fa) := by
      rw [← DR.dLaw_name]
      exact hmg0
    have c := DR.wd_of KX G c0
    obtain rfl : DR.gA K "law" = fa := by
      have := hmg.symm.trans c.g_law
      simpa using this.symm
    refine ⟨K, KX, DR.fdOf K (DR.gA K "law"), [], DR.sp_law K, (fun p hp => nomatch hp), (fun p hp => nomatch hp), (fun p hp => nomatch hp), fun s u => ?_, fun H a ns hl _ _ hS => ⟨a, ns, rfl, hS, Nat.le_trans hl (by decide), fun _ => rfl⟩, fun base _ _ _ => DR.ok_law c DR.mainOk⟩
    obtain ⟨oc, od, kV, doc, pm, an, cdv, ct, osl, hfd, lk, hcd⟩ := c.f_law.ex
    rw [hfd]
    exact .of_eq rfl
